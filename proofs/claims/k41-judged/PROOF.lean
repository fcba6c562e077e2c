import PyProof.Rows.All
import Wide.All
import OpenK.AllK
import Wide.FinOn
import HandS.ForMost
import HandS.ForExc
import HandS.Evl
import HandS.Wide
import HandS.IsInst
import HandS.Style
import HandS.CallSlots
import HandS.Small
import HandS.Walk
import HandS.Defaults
import HandS.ExcIs
import HandS.TryOnly
import HandS.Dict
import HandS.TupAny
import HandS.Text
import PyProof.ReprRoads
import HandS.More
import HandS.Flow
import KE.KSortTupAny
import HandS.Conv
import HandS.TupSets
import HandS.DictTup
import HandS.EndBits
import PyProof.ReprLen
import PySem.Challenge.RW_rivalprices_k41_prices_are_judged
set_option Elab.async false
set_option linter.all false
set_option maxRecDepth 100000
set_option maxHeartbeats 1000000
/-! MB1: data D, what a value stands for (Dat), owned objects (Own), environments (EnvOk). -/
namespace MR
open PySem L2

/-- the errors of the program, by class -/
inductive Err where
  | ratio | singular | market | unknown | dup | merger | command | line (n : Int)
  deriving DecidableEq

inductive D where
  | non | bl (b : Bool) | int (i : Int) | str (s : Str)
  | tup (ds : List D) | lst (ds : List D)
  | dK (kvs : List (Key × D)) | dT (kvs : List (List Key × D))
  | ins (c : Nat) (fs : List (Str × D))
  | scr (ns : List Int)
  deriving Inhabited

def Err.tag : Err → Nat
  | .ratio => 0 | .singular => 1 | .market => 2 | .unknown => 3 | .dup => 4 | .merger => 5 | .command => 6 | .line _ => 7
/-- where the classes stand -/
structure Cl where
  cA : Nat → Addr
  eA : Nat → Addr

/-- shapes of owned things: frozen data; a list by its row; an instance by its fields' row; dicts of data -/
inductive Sh where | d | l (row : Sh) | i (c : Nat) (row : Sh) | dk | dt | nil | cons (s row : Sh) | all (s : Sh)
  deriving DecidableEq
/-- x unknown, d data, o owned and flat, w owned by a shape, s .. at the pinned address k, e a caught error -/
inductive Mode where | x | d | o | w (sh : Sh) | s (k : Nat) (sh : Sh) | e (a : Addr)
  deriving DecidableEq
/-- no tuple: what may be owned or foreign (tuples never change: they may be known to anybody) -/
def noTup : HO → Bool
  | .tup _ => false
  | _ => true
theorem nt_lst {vs : List V} : noTup (.lst vs) = true := rfl
/-- what is foreign, and the addresses that are lent -/
structure Fo where
  hp : Hp
  pin : Nat → Addr
  nt : ∀ a o, hp a = some o → noTup o = true
instance : CoeFun Fo (fun _ => Addr → Option HO) := ⟨Fo.hp⟩
def Fo.upd (F : Fo) (p : Addr) (o : HO) (ho : noTup o = true := by exact nt_lst) : Fo := ⟨L2.upd F.hp p o, F.pin, fun a u q => by
  by_cases e : a = p
  · subst e
    rw [L2.upd_same] at q
    cases q
    exact ho
  · rw [L2.upd_ne e] at q
    exact F.nt a u q⟩
theorem Fo.upd_same {F : Fo} {p : Addr} {o : HO} {ho : noTup o = true} : F.upd p o ho p = some o := L2.upd_same
theorem Fo.upd_ne {F : Fo} {p q : Addr} {o : HO} {ho : noTup o = true} (h : q ≠ p) : F.upd p o ho q = F q := L2.upd_ne h

abbrev Ex (H H' : Hp) : Prop := Evl.Ex H H'

mutual
inductive Dat (K : PySem.W.Frag) (G : Cl) (S : Hp) : V → D → Prop
  | non : Dat K G S .non .non
  | bl (b : Bool) : Dat K G S (.bl b) (.bl b)
  | int (i : Int) : Dat K G S (.int i) (.int i)
  | str (x : Str) : Dat K G S (.str x) (.str x)
  | tup {a : Addr} {vs : List V} {ds : List D} : SqT K S a vs → DatL K G S vs ds → Dat K G S (.ref a) (.tup ds)
  | lst {a : Addr} {vs : List V} {ds : List D} : S a = some (.lst vs) → DatL K G S vs ds → Dat K G S (.ref a) (.lst ds)
  | scr {a : Addr} {ns : List Int} : SqL K S a (ns.map V.int) → Dat K G S (.ref a) (.scr ns)
  | dK {a : Addr} {ks : List Key} {vs : List V} {ds : List D} : S a = some (.dK (ks.zip vs)) → ks.length = vs.length → DatL K G S vs ds → Dat K G S (.ref a) (.dK (ks.zip ds))
  | dT {a : Addr} {ks : List (List Key)} {vs : List V} {ds : List D} : S a = some (.dT (ks.zip vs)) → ks.length = vs.length → DatL K G S vs ds → Dat K G S (.ref a) (.dT (ks.zip ds))
  | ins {a dx : Addr} {c : Nat} {ks : List Str} {vs : List V} {ds : List D} : S a = some (.ins (G.cA c) dx (ks.zip vs)) → ks.length = vs.length → DatL K G S vs ds → Dat K G S (.ref a) (.ins c (ks.zip ds))
inductive DatL (K : PySem.W.Frag) (G : Cl) (S : Hp) : List V → List D → Prop
  | nil : DatL K G S [] []
  | cons {v : V} {d : D} {vs : List V} {ds : List D} : Dat K G S v d → DatL K G S vs ds → DatL K G S (v :: vs) (d :: ds)
end

mutual
inductive Own (K : PySem.W.Frag) (G : Cl) (S H : Hp) : Addr → D → List Addr → Prop
  | lst {p : Addr} {vs : List V} {ds : List D} {fp : List Addr} : H p = some (.lst vs) → OwnL K G S H vs ds fp → Own K G S H p (.lst ds) (p :: fp)
  | dK {p : Addr} {ks : List Key} {vs : List V} {ds : List D} {fp : List Addr} : H p = some (.dK (ks.zip vs)) → ks.length = vs.length → OwnL K G S H vs ds fp → Own K G S H p (.dK (ks.zip ds)) (p :: fp)
  | dT {p : Addr} {ks : List (List Key)} {vs : List V} {ds : List D} {fp : List Addr} : H p = some (.dT (ks.zip vs)) → ks.length = vs.length → OwnL K G S H vs ds fp → Own K G S H p (.dT (ks.zip ds)) (p :: fp)
  | ins {p dx : Addr} {c : Nat} {ks : List Str} {vs : List V} {ds : List D} {fp : List Addr} : H p = some (.ins (G.cA c) dx (ks.zip vs)) → ks.length = vs.length → OwnL K G S H vs ds fp → Own K G S H p (.ins c (ks.zip ds)) (p :: fp)
inductive OwnL (K : PySem.W.Frag) (G : Cl) (S H : Hp) : List V → List D → List Addr → Prop
  | nil : OwnL K G S H [] [] []
  | dat {v : V} {d : D} {vs : List V} {ds : List D} {fp : List Addr} : Dat K G S v d → OwnL K G S H vs ds fp → OwnL K G S H (v :: vs) (d :: ds) fp
  | own {p : Addr} {d : D} {vs : List V} {ds : List D} {f1 f2 : List Addr} : Own K G S H p d f1 → OwnL K G S H vs ds f2 → OwnL K G S H (.ref p :: vs) (d :: ds) (f1 ++ f2)
end

/-- owned by a shape: the value, its data, the addresses that it stands at -/
inductive Ow (K : PySem.W.Frag) (G : Cl) (S H : Hp) : Bool → Sh → List V → List D → List Addr → Prop
  | dat {v : V} {d : D} : Dat K G S v d → Ow K G S H false .d [v] [d] []
  | lst {p : Addr} {row : Sh} {vs : List V} {ds : List D} {fp : List Addr} : H p = some (.lst vs) → Ow K G S H true row vs ds fp → Ow K G S H false (.l row) [.ref p] [.lst ds] (p :: fp)
  | ins {p dx : Addr} {c : Nat} {row : Sh} {ks : List Str} {vs : List V} {ds : List D} {fp : List Addr} : H p = some (.ins (G.cA c) dx (ks.zip vs)) → ks.length = vs.length → Ow K G S H true row vs ds fp → Ow K G S H false (.i c row) [.ref p] [.ins c (ks.zip ds)] (p :: fp)
  | dk {p : Addr} {ks : List Key} {vs : List V} {ds : List D} : H p = some (.dK (ks.zip vs)) → ks.length = vs.length → DatL K G S vs ds → Ow K G S H false .dk [.ref p] [.dK (ks.zip ds)] [p]
  | dt {p : Addr} {ks : List (List Key)} {vs : List V} {ds : List D} : H p = some (.dT (ks.zip vs)) → ks.length = vs.length → DatL K G S vs ds → Ow K G S H false .dt [.ref p] [.dT (ks.zip ds)] [p]
  | nil : Ow K G S H true .nil [] [] []
  | cons {s row : Sh} {v : V} {d : D} {vs : List V} {ds : List D} {f1 f2 : List Addr} : Ow K G S H false s [v] [d] f1 → Ow K G S H true row vs ds f2 → Ow K G S H true (.cons s row) (v :: vs) (d :: ds) (f1 ++ f2)
  | all0 {s : Sh} : Ow K G S H true (.all s) [] [] []
  | all {s : Sh} {v : V} {d : D} {vs : List V} {ds : List D} {f1 f2 : List Addr} : Ow K G S H false s [v] [d] f1 → Ow K G S H true (.all s) vs ds f2 → Ow K G S H true (.all s) (v :: vs) (d :: ds) (f1 ++ f2)

section
variable {K : PySem.W.Frag} {G : Cl} {F : Fo} {S S' H H' : Hp}
mutual
theorem Dat.mono (e : Ex S S') : ∀ {v : V} {d : D}, Dat K G S v d → Dat K G S' v d
  | _, _, .non => .non
  | _, _, .bl b => .bl b
  | _, _, .int i => .int i
  | _, _, .str x => .str x
  | _, _, .tup h1 h2 => .tup (Evl.ex_t e h1) (DatL.mono e h2)
  | _, _, .lst h1 h2 => .lst (e _ _ h1) (DatL.mono e h2)
  | _, _, .scr h1 => .scr (Evl.ex_l e h1)
  | _, _, .dK h1 h2 h3 => .dK (e _ _ h1) h2 (DatL.mono e h3)
  | _, _, .dT h1 h2 h3 => .dT (e _ _ h1) h2 (DatL.mono e h3)
  | _, _, .ins h1 h2 h3 => .ins (e _ _ h1) h2 (DatL.mono e h3)
theorem DatL.mono (e : Ex S S') : ∀ {vs : List V} {ds : List D}, DatL K G S vs ds → DatL K G S' vs ds
  | _, _, .nil => .nil
  | _, _, .cons h t => .cons (Dat.mono e h) (DatL.mono e t)
end
mutual
theorem Own.mono (e : Ex S S') : ∀ {p : Addr} {d : D} {fp : List Addr}, Own K G S H p d fp → (∀ a ∈ fp, H' a = H a) → Own K G S' H' p d fp
  | _, _, _, .lst h1 h2, k => .lst ((k _ List.mem_cons_self).trans h1) (OwnL.mono e h2 fun a ha => k a (List.mem_cons_of_mem _ ha))
  | _, _, _, .dK h1 h2 h3, k => .dK ((k _ List.mem_cons_self).trans h1) h2 (OwnL.mono e h3 fun a ha => k a (List.mem_cons_of_mem _ ha))
  | _, _, _, .dT h1 h2 h3, k => .dT ((k _ List.mem_cons_self).trans h1) h2 (OwnL.mono e h3 fun a ha => k a (List.mem_cons_of_mem _ ha))
  | _, _, _, .ins h1 h2 h3, k => .ins ((k _ List.mem_cons_self).trans h1) h2 (OwnL.mono e h3 fun a ha => k a (List.mem_cons_of_mem _ ha))
theorem OwnL.mono (e : Ex S S') : ∀ {vs : List V} {ds : List D} {fp : List Addr}, OwnL K G S H vs ds fp → (∀ a ∈ fp, H' a = H a) → OwnL K G S' H' vs ds fp
  | _, _, _, .nil, _ => .nil
  | _, _, _, .dat h t, k => .dat (Dat.mono e h) (OwnL.mono e t k)
  | _, _, _, .own h t, k => .own (Own.mono e h fun a ha => k a (List.mem_append_left _ ha)) (OwnL.mono e t fun a ha => k a (List.mem_append_right _ ha))
end
mutual
theorem Own.frz (e : Ex S S') : ∀ {p : Addr} {d : D} {fp : List Addr}, Own K G S H p d fp → (∀ a ∈ fp, S' a = H a) → Dat K G S' (.ref p) d
  | _, _, _, .lst h1 h2, k => .lst ((k _ List.mem_cons_self).trans h1) (OwnL.frz e h2 fun a ha => k a (List.mem_cons_of_mem _ ha))
  | _, _, _, .dK h1 h2 h3, k => .dK ((k _ List.mem_cons_self).trans h1) h2 (OwnL.frz e h3 fun a ha => k a (List.mem_cons_of_mem _ ha))
  | _, _, _, .dT h1 h2 h3, k => .dT ((k _ List.mem_cons_self).trans h1) h2 (OwnL.frz e h3 fun a ha => k a (List.mem_cons_of_mem _ ha))
  | _, _, _, .ins h1 h2 h3, k => .ins ((k _ List.mem_cons_self).trans h1) h2 (OwnL.frz e h3 fun a ha => k a (List.mem_cons_of_mem _ ha))
theorem OwnL.frz (e : Ex S S') : ∀ {vs : List V} {ds : List D} {fp : List Addr}, OwnL K G S H vs ds fp → (∀ a ∈ fp, S' a = H a) → DatL K G S' vs ds
  | _, _, _, .nil, _ => .nil
  | _, _, _, .dat h t, k => .cons (Dat.mono e h) (OwnL.frz e t k)
  | _, _, _, .own h t, k => .cons (Own.frz e h fun a ha => k a (List.mem_append_left _ ha)) (OwnL.frz e t fun a ha => k a (List.mem_append_right _ ha))
end
mutual
theorem Own.there : ∀ {p : Addr} {d : D} {fp : List Addr}, Own K G S H p d fp → ∀ a ∈ fp, ∃ o, H a = some o ∧ noTup o = true
  | _, _, _, .lst h1 h2, a, ha => by
    rcases List.mem_cons.mp ha with rfl | ha
    · exact ⟨_, h1, rfl⟩
    · exact OwnL.there h2 a ha
  | _, _, _, .dK h1 _ h2, a, ha => by
    rcases List.mem_cons.mp ha with rfl | ha
    · exact ⟨_, h1, rfl⟩
    · exact OwnL.there h2 a ha
  | _, _, _, .dT h1 _ h2, a, ha => by
    rcases List.mem_cons.mp ha with rfl | ha
    · exact ⟨_, h1, rfl⟩
    · exact OwnL.there h2 a ha
  | _, _, _, .ins h1 _ h2, a, ha => by
    rcases List.mem_cons.mp ha with rfl | ha
    · exact ⟨_, h1, rfl⟩
    · exact OwnL.there h2 a ha
theorem OwnL.there : ∀ {vs : List V} {ds : List D} {fp : List Addr}, OwnL K G S H vs ds fp → ∀ a ∈ fp, ∃ o, H a = some o ∧ noTup o = true
  | _, _, _, .nil, a, ha => by cases ha
  | _, _, _, .dat _ t, a, ha => OwnL.there t a ha
  | _, _, _, .own h t, a, ha => by
    rcases List.mem_append.mp ha with ha | ha
    · exact Own.there h a ha
    · exact OwnL.there t a ha
end
theorem DatL.ownL : ∀ {vs : List V} {ds : List D}, DatL K G S vs ds → OwnL K G S H vs ds []
  | _, _, .nil => .nil
  | _, _, .cons h t => .dat h (DatL.ownL t)
theorem DatL.length : ∀ {vs : List V} {ds : List D}, DatL K G S vs ds → vs.length = ds.length
  | _, _, .nil => rfl
  | _, _, .cons _ t => by simp [DatL.length t]
theorem OwnL.length : ∀ {vs : List V} {ds : List D} {fp : List Addr}, OwnL K G S H vs ds fp → vs.length = ds.length
  | _, _, _, .nil => rfl
  | _, _, _, .dat _ t => by simp [OwnL.length t]
  | _, _, _, .own _ t => by simp [OwnL.length t]
theorem DatL.append : ∀ {vs ws : List V} {ds es : List D}, DatL K G S vs ds → DatL K G S ws es → DatL K G S (vs ++ ws) (ds ++ es)
  | _, _, _, _, .nil, h => h
  | _, _, _, _, .cons h t, q => .cons h (DatL.append t q)
theorem Ow.mono (e : Ex S S') {q : Bool} {sh : Sh} {vs : List V} {ds : List D} {fp : List Addr} (h : Ow K G S H q sh vs ds fp) (k : ∀ a ∈ fp, H' a = H a) : Ow K G S' H' q sh vs ds fp := by
  induction h with
  | dat h => exact .dat (h.mono e)
  | lst h1 _ ih => exact .lst ((k _ List.mem_cons_self).trans h1) (ih fun a ha => k a (List.mem_cons_of_mem _ ha))
  | ins h1 h2 _ ih => exact .ins ((k _ List.mem_cons_self).trans h1) h2 (ih fun a ha => k a (List.mem_cons_of_mem _ ha))
  | dk h1 h2 h3 => exact .dk ((k _ List.mem_cons_self).trans h1) h2 (h3.mono e)
  | dt h1 h2 h3 => exact .dt ((k _ List.mem_cons_self).trans h1) h2 (h3.mono e)
  | nil => exact .nil
  | cons _ _ i1 i2 => exact .cons (i1 fun a ha => k a (List.mem_append_left _ ha)) (i2 fun a ha => k a (List.mem_append_right _ ha))
  | all0 => exact .all0
  | all _ _ i1 i2 => exact .all (i1 fun a ha => k a (List.mem_append_left _ ha)) (i2 fun a ha => k a (List.mem_append_right _ ha))
theorem Ow.frz (e : Ex S S') {q : Bool} {sh : Sh} {vs : List V} {ds : List D} {fp : List Addr} (h : Ow K G S H q sh vs ds fp) (k : ∀ a ∈ fp, S' a = H a) : DatL K G S' vs ds := by
  induction h with
  | dat h => exact .cons (h.mono e) .nil
  | lst h1 _ ih => exact .cons (.lst ((k _ List.mem_cons_self).trans h1) (ih fun a ha => k a (List.mem_cons_of_mem _ ha))) .nil
  | ins h1 h2 _ ih => exact .cons (.ins ((k _ List.mem_cons_self).trans h1) h2 (ih fun a ha => k a (List.mem_cons_of_mem _ ha))) .nil
  | dk h1 h2 h3 => exact .cons (.dK ((k _ List.mem_cons_self).trans h1) h2 (h3.mono e)) .nil
  | dt h1 h2 h3 => exact .cons (.dT ((k _ List.mem_cons_self).trans h1) h2 (h3.mono e)) .nil
  | nil => exact .nil
  | cons _ _ i1 i2 => exact (i1 fun a ha => k a (List.mem_append_left _ ha)).append (i2 fun a ha => k a (List.mem_append_right _ ha))
  | all0 => exact .nil
  | all _ _ i1 i2 => exact (i1 fun a ha => k a (List.mem_append_left _ ha)).append (i2 fun a ha => k a (List.mem_append_right _ ha))
theorem Ow.there {q : Bool} {sh : Sh} {vs : List V} {ds : List D} {fp : List Addr} (h : Ow K G S H q sh vs ds fp) : ∀ a ∈ fp, ∃ o, H a = some o ∧ noTup o = true := by
  induction h with
  | dat h => intro a ha; cases ha
  | lst h1 _ ih =>
    intro a ha
    rcases List.mem_cons.mp ha with rfl | ha
    · exact ⟨_, h1, rfl⟩
    · exact ih a ha
  | ins h1 _ _ ih =>
    intro a ha
    rcases List.mem_cons.mp ha with rfl | ha
    · exact ⟨_, h1, rfl⟩
    · exact ih a ha
  | dk h1 _ _ => intro a ha; rw [List.mem_singleton.mp ha]; exact ⟨_, h1, rfl⟩
  | dt h1 _ _ => intro a ha; rw [List.mem_singleton.mp ha]; exact ⟨_, h1, rfl⟩
  | nil => intro a ha; cases ha
  | cons _ _ i1 i2 =>
    intro a ha
    rcases List.mem_append.mp ha with ha | ha
    · exact i1 a ha
    · exact i2 a ha
  | all0 => intro a ha; cases ha
  | all _ _ i1 i2 =>
    intro a ha
    rcases List.mem_append.mp ha with ha | ha
    · exact i1 a ha
    · exact i2 a ha
theorem Ow.length {q : Bool} {sh : Sh} {vs : List V} {ds : List D} {fp : List Addr} (h : Ow K G S H q sh vs ds fp) : vs.length = ds.length := by
  induction h with
  | cons _ _ _ i2 => simp [i2]
  | all _ _ _ i2 => simp [i2]
  | _ => rfl
theorem DatL.get : ∀ {vs : List V} {ds : List D} {i : Nat} {d : D}, DatL K G S vs ds → ds[i]? = some d → ∃ v, vs[i]? = some v ∧ Dat K G S v d
  | _, _, i, _, .nil, e => by simp at e
  | _, _, 0, _, .cons h _, e => by
    simp only [List.getElem?_cons_zero, Option.some.injEq] at e
    subst e
    exact ⟨_, rfl, h⟩
  | _, _, i + 1, _, .cons _ t, e => by
    rw [List.getElem?_cons_succ] at e
    obtain ⟨v, h1, h2⟩ := DatL.get t e
    exact ⟨v, by rw [List.getElem?_cons_succ]; exact h1, h2⟩
theorem DatL.getV : ∀ {vs : List V} {ds : List D} {i : Nat} {v : V}, DatL K G S vs ds → vs[i]? = some v → ∃ d, ds[i]? = some d ∧ Dat K G S v d
  | _, _, i, _, .nil, e => by simp at e
  | _, _, 0, _, .cons h _, e => by
    simp only [List.getElem?_cons_zero, Option.some.injEq] at e
    subst e
    exact ⟨_, rfl, h⟩
  | _, _, i + 1, _, .cons _ t, e => by
    rw [List.getElem?_cons_succ] at e
    obtain ⟨v, h1, h2⟩ := DatL.getV t e
    exact ⟨v, by rw [List.getElem?_cons_succ]; exact h1, h2⟩
theorem DatL.drop : ∀ {vs : List V} {ds : List D} (n : Nat), DatL K G S vs ds → DatL K G S (vs.drop n) (ds.drop n)
  | _, _, 0, h => h
  | _, _, _ + 1, .nil => .nil
  | _, _, n + 1, .cons _ t => DatL.drop n t
theorem DatL.take : ∀ {vs : List V} {ds : List D} (n : Nat), DatL K G S vs ds → DatL K G S (vs.take n) (ds.take n)
  | _, _, 0, _ => .nil
  | _, _, _ + 1, .nil => .nil
  | _, _, n + 1, .cons h t => .cons h (DatL.take n t)
theorem DatL.set {v : V} {d : D} (h : Dat K G S v d) : ∀ {vs : List V} {ds : List D} (n : Nat), DatL K G S vs ds → DatL K G S (vs.set n v) (ds.set n d)
  | _, _, _, .nil => .nil
  | _, _, 0, .cons _ t => .cons h t
  | _, _, n + 1, .cons q t => .cons q (DatL.set h n t)
theorem OwnL.snoc {v : V} {d : D} (h : Dat K G S v d) : ∀ {vs : List V} {ds : List D} {fp : List Addr}, OwnL K G S H vs ds fp → OwnL K G S H (vs ++ [v]) (ds ++ [d]) fp
  | _, _, _, .nil => .dat h .nil
  | _, _, _, .dat q t => .dat q (OwnL.snoc h t)
  | _, _, _, .own q t => .own q (OwnL.snoc h t)

/-! ### slots and environments -/
def SlotOk (K : PySem.W.Frag) (G : Cl) (pin : Nat → Addr) (S H : Hp) : Mode → Option (Option V) → D → List Addr → Prop
  | .x, _, _, fp => fp = []
  | .d, sv, d, fp => fp = [] ∧ ∃ v, sv = some (some v) ∧ Dat K G S v d
  | .o, sv, d, fp => ∃ p, sv = some (some (.ref p)) ∧ Own K G S H p d fp ∧ fp = [p]
  | .w sh, sv, d, fp => ∃ p, sv = some (some (.ref p)) ∧ Ow K G S H false sh [.ref p] [d] fp
  | .s k sh, sv, d, fp => sv = some (some (.ref (pin k))) ∧ Ow K G S H false sh [.ref (pin k)] [d] fp
  | .e a, sv, _, fp => fp = [] ∧ sv = some (some (.ref a))
structure Foot (F : Fo) (S : Hp) (fp : Nat → List Addr) : Prop where
  free : ∀ i a, a ∈ fp i → S a = none ∧ F a = none
  apart : ∀ i j a, a ∈ fp i → a ∈ fp j → i = j
  nodup : ∀ i, (fp i).Nodup
structure EnvOk (K : PySem.W.Frag) (G : Cl) (F : Fo) (S H : Hp) (μ : List Mode) (σ : L2.St) (ρ : List D) : Prop where
  sh : Ex S H
  fk : ∀ a o, F a = some o → H a = some o ∧ S a = none
  ls : σ.length = μ.length
  lr : ρ.length = μ.length
  sl : ∃ fp : Nat → List Addr, Foot F S fp ∧ (∀ i, μ.length ≤ i → fp i = []) ∧ ∀ i m, μ[i]? = some m → SlotOk K G F.pin S H m (σ[i]?) (ρ.getD i .non) (fp i)

theorem SlotOk.mono {pin : Nat → Addr} {m : Mode} {sv : Option (Option V)} {d : D} {fp : List Addr} (e : Ex S S') (h : SlotOk K G pin S H m sv d fp) (k : ∀ a ∈ fp, H' a = H a) : SlotOk K G pin S' H' m sv d fp := by
  cases m with
  | x => exact h
  | d => exact ⟨h.1, let ⟨v, a, b⟩ := h.2; ⟨v, a, b.mono e⟩⟩
  | o => exact let ⟨p, a, b, c⟩ := h; ⟨p, a, b.mono e k, c⟩
  | w _ => exact let ⟨p, a, b⟩ := h; ⟨p, a, b.mono e k⟩
  | s _ _ => exact ⟨h.1, h.2.mono e k⟩
  | e _ => exact h
theorem SlotOk.there {pin : Nat → Addr} {m : Mode} {sv : Option (Option V)} {d : D} {fp : List Addr} (h : SlotOk K G pin S H m sv d fp) : ∀ a ∈ fp, ∃ o, H a = some o ∧ noTup o = true := by
  cases m with
  | x => intro a ha; rw [show fp = [] from h] at ha; cases ha
  | d => intro a ha; rw [h.1] at ha; cases ha
  | o => exact let ⟨p, a, b, _⟩ := h; b.there
  | w _ => exact let ⟨p, a, b⟩ := h; b.there
  | s _ _ => exact h.2.there
  | e _ => intro a ha; rw [h.1] at ha; cases ha

def pinless : Mode → Bool
  | .s _ _ => false
  | _ => true
theorem SlotOk.repin {pin pin' : Nat → Addr} {m : Mode} {sv : Option (Option V)} {d : D} {fp : List Addr} (h : SlotOk K G pin S H m sv d fp) (e : pinless m = true) : SlotOk K G pin' S H m sv d fp := by
  cases m with
  | s _ _ => cases e
  | _ => exact h
variable {μ : List Mode} {σ : L2.St} {ρ : List D} {r : Mode} {v : V} {d : D}
/-- the heap and the stable part grow; nothing foreign or owned becomes stable -/
theorem EnvOk.grow (h : EnvOk K G F S H μ σ ρ) (e1 : Ex S S') (e2 : Ex S' H') (e3 : ∀ a o, H a = some o → noTup o = true → H' a = some o) (k : ∀ a o, H a = some o → noTup o = true → S a = none → S' a = none) : EnvOk K G F S' H' μ σ ρ := by
  obtain ⟨sh, fk, ls, lr, fp, ⟨f1, f2, f3⟩, f4, sl⟩ := h
  have th : ∀ i a, a ∈ fp i → ∃ o, H a = some o ∧ noTup o = true := fun i a ha => by
    cases q : μ[i]? with
    | none =>
      rw [f4 i (List.getElem?_eq_none_iff.mp q)] at ha
      cases ha
    | some m => exact (sl i m q).there a ha
  refine ⟨e2, fun a o q => ?_, ls, lr, fp, ⟨fun i a ha => ?_, f2, f3⟩, f4, fun i m q => (sl i m q).mono e1 fun a ha => ?_⟩
  · obtain ⟨q1, q2⟩ := fk a o q
    exact ⟨e3 _ _ q1 (F.nt a o q), k a o q1 (F.nt a o q) q2⟩
  · obtain ⟨o, ho, nt0⟩ := th i a ha
    obtain ⟨q1, q2⟩ := f1 i a ha
    exact ⟨k a o ho nt0 q1, q2⟩
  · obtain ⟨o, ho, nt0⟩ := th i a ha
    rw [ho]
    exact e3 _ _ ho nt0
/-- only the heap grows -/
theorem EnvOk.growH (h : EnvOk K G F S H μ σ ρ) (e : Ex H H') : EnvOk K G F S H' μ σ ρ := h.grow (Evl.Ex.refl S) (h.sh.trans e) (fun a o q _ => e a o q) fun _ _ _ _ q => q
theorem EnvOk.fx (h : EnvOk K G F S H μ σ ρ) : Ex F.hp H := fun a o q => (h.fk a o q).1
theorem EnvOk.tail {s : Option V} (h : EnvOk K G F S H (r :: μ) (s :: σ) (d :: ρ)) : EnvOk K G F S H μ σ ρ := by
  obtain ⟨sh, fk, ls, lr, fp, ⟨f1, f2, f3⟩, f4, sl⟩ := h
  refine ⟨sh, fk, by simpa using ls, by simpa using lr, fun i => fp (i + 1), ⟨fun i a ha => f1 _ a ha, fun i j a ha hb => by have := f2 _ _ a ha hb; omega, fun i => f3 _⟩, fun i hi => f4 _ (by simp; omega), fun i m q => ?_⟩
  have := sl (i + 1) m (by simpa using q)
  simpa using this
theorem EnvOk.head (h : EnvOk K G F S H (.d :: μ) (some v :: σ) (d :: ρ)) : Dat K G S v d := by
  obtain ⟨sh, fk, ls, lr, fp, _, f4, sl⟩ := h
  obtain ⟨_, w, e, q⟩ := sl 0 .d rfl
  simp only [List.getElem?_cons_zero, Option.some.injEq] at e
  subst e
  exact q
theorem EnvOk.push (h : EnvOk K G F S H μ σ ρ) (q : Dat K G S v d) : EnvOk K G F S H (.d :: μ) (some v :: σ) (d :: ρ) := by
  obtain ⟨sh, fk, ls, lr, fp, ⟨f1, f2, f3⟩, f4, sl⟩ := h
  refine ⟨sh, fk, by simpa using ls, by simpa using lr, fun i => match i with | 0 => [] | i + 1 => fp i, ⟨?_, ?_, ?_⟩, ?_, ?_⟩
  · intro i a ha
    cases i with
    | zero => cases ha
    | succ i => exact f1 i a ha
  · intro i j a ha hb
    cases i with
    | zero => cases ha
    | succ i =>
      cases j with
      | zero => cases hb
      | succ j => exact congrArg (· + 1) (f2 i j a ha hb)
  · intro i
    cases i with
    | zero => exact List.nodup_nil
    | succ i => exact f3 i
  · intro i hi
    cases i with
    | zero => simp at hi
    | succ i => exact f4 i (by simpa using hi)
  · intro i m e
    cases i with
    | zero =>
      simp only [List.getElem?_cons_zero, Option.some.injEq] at e
      subst e
      exact ⟨rfl, v, rfl, q⟩
    | succ i =>
      have := sl i m (by simpa using e)
      simpa using this
/-- what the footprints hold is there -/
theorem EnvOk.fps (h : EnvOk K G F S H μ σ ρ) : ∃ fp : Nat → List Addr, Foot F S fp ∧ (∀ i, μ.length ≤ i → fp i = []) ∧ (∀ i m, μ[i]? = some m → SlotOk K G F.pin S H m (σ[i]?) (ρ.getD i .non) (fp i)) ∧ ∀ i a, a ∈ fp i → ∃ o, H a = some o ∧ noTup o = true := by
  obtain ⟨fp, f, f4, sl⟩ := h.sl
  refine ⟨fp, f, f4, sl, fun i a ha => ?_⟩
  cases q : μ[i]? with
  | none =>
    rw [f4 i (List.getElem?_eq_none_iff.mp q)] at ha
    cases ha
  | some m => exact (sl i m q).there a ha
theorem ex_none {H H' : Hp} {p : Addr} (e : Ex H H') (h : H' p = none) : H p = none := Evl.fresh_back e h
theorem EnvOk.freshF (h : EnvOk K G F S H μ σ ρ) {p : Addr} (hp : H p = none) : F p = none := by
  cases e : F p with
  | none => rfl
  | some u => rw [(h.fk _ _ e).1] at hp; cases hp
/-- a new object that is owned -/
theorem EnvOk.pushO {p : Addr} {o : HO} (h : EnvOk K G F S H μ σ ρ) (hp : H p = none) (q : Own K G S (upd H p o) p d [p]) : EnvOk K G F S (upd H p o) (.o :: μ) (some (.ref p) :: σ) (d :: ρ) := by
  have hS : S p = none := ex_none h.sh hp
  have hF : F p = none := h.freshF hp
  obtain ⟨fp, ⟨f1, f2, f3⟩, f4, sl, th⟩ := h.fps
  have np : ∀ i, p ∉ fp i := fun i hi => by
    obtain ⟨o', e, nt0⟩ := th i p hi
    rw [hp] at e
    cases e
  have e2 : Ex H (upd H p o) := Evl.Ex.new hp
  refine ⟨h.sh.trans e2, fun a u q => ⟨e2 _ _ (h.fk a u q).1, (h.fk a u q).2⟩, by simp [h.ls], by simp [h.lr], fun i => match i with | 0 => [p] | i + 1 => fp i, ⟨?_, ?_, ?_⟩, ?_, ?_⟩
  · intro i a ha
    cases i with
    | zero =>
      rw [List.mem_singleton.mp ha]
      exact ⟨hS, hF⟩
    | succ i => exact f1 i a ha
  · intro i j a ha hb
    cases i with
    | zero =>
      cases j with
      | zero => rfl
      | succ j =>
        rw [List.mem_singleton.mp ha] at hb
        exact absurd hb (np j)
    | succ i =>
      cases j with
      | zero =>
        rw [List.mem_singleton.mp hb] at ha
        exact absurd ha (np i)
      | succ j => exact congrArg (· + 1) (f2 i j a ha hb)
  · intro i
    cases i with
    | zero => exact List.nodup_cons.mpr ⟨by simp, List.nodup_nil⟩
    | succ i => exact f3 i
  · intro i hi
    cases i with
    | zero => simp at hi
    | succ i => exact f4 i (by simpa using hi)
  · intro i m e
    cases i with
    | zero =>
      simp only [List.getElem?_cons_zero, Option.some.injEq] at e
      subst e
      exact ⟨p, rfl, q, rfl⟩
    | succ i =>
      have z := (sl i m (by simpa using e)).mono (S' := S) (H' := upd H p o) (Evl.Ex.refl S) fun a ha => upd_ne fun w => np i (w ▸ ha)
      simpa using z
/-- what stands in slot 0 is stored in slot i -/
theorem EnvOk.store {s : Option V} {i : Nat} (h : EnvOk K G F S H (r :: μ) (s :: σ) (d :: ρ)) (hi : i < μ.length) : EnvOk K G F S H (μ.set i r) (σ.set i s) (ρ.set i d) := by
  obtain ⟨sh, fk, ls, lr, fp, ⟨f1, f2, f3⟩, f4, sl⟩ := h
  simp only [List.length_cons, Nat.add_right_cancel_iff] at ls lr
  refine ⟨sh, fk, by simp [ls], by simp [lr], fun j => if j = i then fp 0 else fp (j + 1), ⟨?_, ?_, ?_⟩, ?_, ?_⟩
  · intro j a ha
    split at ha <;> exact f1 _ a ha
  · intro j k a ha hb
    by_cases h1 : j = i
    · by_cases h2 : k = i
      · omega
      · simp only [h1, if_true, h2, if_false] at ha hb
        have := f2 _ _ a ha hb
        omega
    · by_cases h2 : k = i
      · simp only [h1, if_false, h2, if_true] at ha hb
        have := f2 _ _ a ha hb
        omega
      · simp only [h1, if_false, h2, if_false] at ha hb
        have := f2 _ _ a ha hb
        omega
  · intro j
    show (if j = i then fp 0 else fp (j + 1)).Nodup
    split <;> exact f3 _
  · intro j hj
    rw [List.length_set] at hj
    show (if j = i then fp 0 else fp (j + 1)) = []
    rw [if_neg (by omega)]
    exact f4 _ (by simp; omega)
  · intro j m e
    by_cases h1 : j = i
    · subst h1
      rw [List.getElem?_set_self hi] at e
      cases e
      simp only [if_true]
      have z := sl 0 r rfl
      simp only [List.getElem?_cons_zero, List.getD_cons_zero] at z
      rw [List.getElem?_set_self (by omega)]
      have : (ρ.set j d).getD j .non = d := by simp [List.getD, List.getElem?_set_self (show j < ρ.length by omega)]
      rw [this]
      exact z
    · rw [List.getElem?_set_ne (Ne.symm h1)] at e
      show SlotOk K G F.pin S H m _ _ (if j = i then fp 0 else fp (j + 1))
      rw [if_neg h1, List.getElem?_set_ne (Ne.symm h1)]
      have : (ρ.set i d).getD j .non = ρ.getD j .non := by simp [List.getD, List.getElem?_set_ne (Ne.symm h1)]
      rw [this]
      have z := sl (j + 1) m (by simpa using e)
      simpa using z
/-- slots are forgotten -/
def ModeLe : Mode → Mode → Bool
  | .x, _ => true
  | .d, .d => true
  | .o, .o => true
  | .w a, .w b => decide (a = b)
  | .s j a, .s k b => decide (j = k) && decide (a = b)
  | .e a, .e b => decide (a = b)
  | _, _ => false
def ModesLe : List Mode → List Mode → Bool
  | [], [] => true
  | a :: as, b :: bs => ModeLe a b && ModesLe as bs
  | _, _ => false
theorem modesLe_len : ∀ {μ ν : List Mode}, ModesLe μ ν = true → μ.length = ν.length
  | [], [], _ => rfl
  | _ :: _, _ :: _, h => by
    simp only [ModesLe, Bool.and_eq_true] at h
    simp [modesLe_len h.2]
theorem modesLe_get : ∀ {μ ν : List Mode} {i : Nat} {m : Mode}, ModesLe μ ν = true → μ[i]? = some m → ∃ n, ν[i]? = some n ∧ ModeLe m n = true
  | [], [], _, _, _, e => by simp at e
  | a :: as, b :: bs, 0, m, h, e => by
    simp only [ModesLe, Bool.and_eq_true] at h
    simp only [List.getElem?_cons_zero, Option.some.injEq] at e
    subst e
    exact ⟨b, rfl, h.1⟩
  | a :: as, b :: bs, i + 1, m, h, e => by
    simp only [ModesLe, Bool.and_eq_true] at h
    rw [List.getElem?_cons_succ] at e ⊢
    exact modesLe_get h.2 e
/-- the data of the slots that are kept -/
def keep : List Mode → List D → List D
  | .x :: ms, _ :: ds => .non :: keep ms ds
  | _ :: ms, d :: ds => d :: keep ms ds
  | _, _ => []
theorem keep_len : ∀ {μ : List Mode} {ρ : List D}, ρ.length = μ.length → (keep μ ρ).length = μ.length
  | [], [], _ => rfl
  | m :: ms, d :: ds, h => by
    have := keep_len (μ := ms) (ρ := ds) (by simpa using h)
    cases m <;> simp [keep, this]
  | [], _ :: _, h => by simp at h
  | _ :: _, [], h => by simp at h
theorem keep_get : ∀ {μ : List Mode} {ρ : List D} {i : Nat} {m : Mode}, ρ.length = μ.length → μ[i]? = some m → m ≠ .x → (keep μ ρ).getD i .non = ρ.getD i .non
  | m :: ms, d :: ds, 0, m', h, e, n => by
    simp only [List.getElem?_cons_zero, Option.some.injEq] at e
    subst e
    cases m <;> simp_all [keep]
  | m :: ms, d :: ds, i + 1, m', h, e, n => by
    have := keep_get (μ := ms) (ρ := ds) (i := i) (m := m') (by simpa using h) (by simpa using e) n
    cases m <;> simpa [keep] using this
  | [], _, _, _, _, e, _ => by simp at e
  | _ :: _, [], _, _, h, _, _ => by simp at h
theorem EnvOk.weak {ν : List Mode} (h : EnvOk K G F S H ν σ ρ) (w : ModesLe μ ν = true) : EnvOk K G F S H μ σ (keep μ ρ) := by
  obtain ⟨sh, fk, ls, lr, fp, ⟨f1, f2, f3⟩, f4, sl⟩ := h
  have hl := modesLe_len w
  refine ⟨sh, fk, ls.trans hl.symm, keep_len (lr.trans hl.symm), fun i => if μ[i]? = some .x then [] else fp i, ⟨?_, ?_, ?_⟩, ?_, ?_⟩
  · intro i a ha
    split at ha
    · cases ha
    · exact f1 i a ha
  · intro i j a ha hb
    split at ha
    · cases ha
    · split at hb
      · cases hb
      · exact f2 i j a ha hb
  · intro i
    show (if μ[i]? = some .x then [] else fp i).Nodup
    split
    · exact List.nodup_nil
    · exact f3 i
  · intro i hi
    show (if μ[i]? = some .x then [] else fp i) = []
    split
    · rfl
    · exact f4 i (by omega)
  · intro i m e
    obtain ⟨n, en, le⟩ := modesLe_get w e
    have z := sl i n en
    cases m with
    | x =>
      show (if μ[i]? = some .x then [] else fp i) = []
      rw [if_pos e]
    | d =>
      have : n = .d := by cases n <;> simp_all [ModeLe]
      subst this
      rw [keep_get (lr.trans hl.symm) e (by simp)]
      show SlotOk K G F.pin S H _ _ _ (if μ[i]? = some .x then [] else fp i)
      rw [if_neg (by rw [e]; simp)]
      exact z
    | w sh =>
      have : n = .w sh := by cases n <;> simp_all [ModeLe]
      subst this
      rw [keep_get (lr.trans hl.symm) e (by simp)]
      show SlotOk K G F.pin S H _ _ _ (if μ[i]? = some .x then [] else fp i)
      rw [if_neg (by rw [e]; simp)]
      exact z
    | s kk sh =>
      have : n = .s kk sh := by cases n <;> simp_all [ModeLe]
      subst this
      rw [keep_get (lr.trans hl.symm) e (by simp)]
      show SlotOk K G F.pin S H _ _ _ (if μ[i]? = some .x then [] else fp i)
      rw [if_neg (by rw [e]; simp)]
      exact z
    | e a =>
      have : n = .e a := by cases n <;> simp_all [ModeLe]
      subst this
      rw [keep_get (lr.trans hl.symm) e (by simp)]
      show SlotOk K G F.pin S H _ _ _ (if μ[i]? = some .x then [] else fp i)
      rw [if_neg (by rw [e]; simp)]
      exact z
    | o =>
      have : n = .o := by cases n <;> simp_all [ModeLe]
      subst this
      rw [keep_get (lr.trans hl.symm) e (by simp)]
      show SlotOk K G F.pin S H _ _ _ (if μ[i]? = some .x then [] else fp i)
      rw [if_neg (by rw [e]; simp)]
      exact z
/-- an owned slot is frozen -/
theorem EnvOk.frzP {i : Nat} (h : EnvOk K G F S H μ σ ρ) (hi : i < μ.length) (hm : ∀ fp, SlotOk K G F.pin S H (μ.getD i .x) (σ[i]?) (ρ.getD i .non) fp → ∃ v, σ[i]? = some (some v) ∧ ∀ S', Ex S S' → (∀ a ∈ fp, S' a = H a) → Dat K G S' v (ρ.getD i .non)) : ∃ S', Ex S S' ∧ EnvOk K G F S' H (μ.set i .d) σ ρ := by
  obtain ⟨sh, fk, ls, lr, fp, ⟨f1, f2, f3⟩, f4, sl⟩ := h
  obtain ⟨v, hp, ow⟩ := hm (fp i) (sl i _ (by rw [List.getD_eq_getElem?_getD, List.getElem?_eq_getElem hi]; rfl))
  have e1 : Ex S (fun a => if a ∈ fp i then H a else S a) := fun a o e => by
    show (if a ∈ fp i then H a else S a) = some o
    split
    · exact sh _ _ e
    · exact e
  refine ⟨fun a => if a ∈ fp i then H a else S a, e1, fun a o e => ?_, fun a o e => ⟨(fk a o e).1, ?_⟩, by simp [ls], by simp [lr], fun j => if j = i then [] else fp j, ⟨?_, ?_, ?_⟩, ?_, ?_⟩
  · have e' : (if a ∈ fp i then H a else S a) = some o := e
    split at e'
    · exact e'
    · exact sh _ _ e'
  · show (if a ∈ fp i then H a else S a) = none
    rw [if_neg]
    · exact (fk a o e).2
    · intro ha
      rw [(f1 i a ha).2] at e
      cases e
  · intro j a ha
    by_cases h1 : j = i
    · rw [if_pos h1] at ha
      cases ha
    · rw [if_neg h1] at ha
      refine ⟨?_, (f1 j a ha).2⟩
      show (if a ∈ fp i then H a else S a) = none
      rw [if_neg fun hb => h1 (f2 _ _ a ha hb)]
      exact (f1 j a ha).1
  · intro j k a ha hb
    by_cases h1 : j = i
    · rw [if_pos h1] at ha
      cases ha
    · by_cases h2 : k = i
      · rw [if_pos h2] at hb
        cases hb
      · rw [if_neg h1] at ha
        rw [if_neg h2] at hb
        exact f2 _ _ a ha hb
  · intro j
    show (if j = i then [] else fp j).Nodup
    split
    · exact List.nodup_nil
    · exact f3 j
  · intro j hj
    show (if j = i then [] else fp j) = []
    split
    · rfl
    · exact f4 j (by simpa using hj)
  · intro j m e
    by_cases h1 : j = i
    · subst h1
      rw [List.getElem?_set_self hi] at e
      cases e
      refine ⟨if_pos rfl, v, hp, ow _ e1 fun a ha => ?_⟩
      show (if a ∈ fp j then H a else S a) = H a
      rw [if_pos ha]
    · rw [List.getElem?_set_ne (Ne.symm h1)] at e
      show SlotOk K G F.pin _ H m _ _ (if j = i then [] else fp j)
      rw [if_neg h1]
      exact (sl j m e).mono e1 fun _ _ => rfl
/-- modes that can be frozen -/
def isOwn : Mode → Bool
  | .o => true
  | .w _ => true
  | .s _ _ => true
  | _ => false
theorem EnvOk.frzM {i : Nat} {m : Mode} (h : EnvOk K G F S H μ σ ρ) (hm : μ[i]? = some m) (ho : isOwn m = true) : ∃ S', Ex S S' ∧ EnvOk K G F S' H (μ.set i .d) σ ρ := by
  refine h.frzP (List.getElem?_eq_some_iff.mp hm).1 fun fp q => ?_
  rw [List.getD_eq_getElem?_getD, hm] at q
  cases m with
  | o => exact let ⟨p, a, b, _⟩ := q; ⟨_, a, fun S' e1 k => b.frz e1 k⟩
  | w sh => exact let ⟨p, a, b⟩ := q; ⟨_, a, fun S' e1 k => match b.frz e1 k with | .cons z _ => z⟩
  | s _ sh => exact ⟨_, q.1, fun S' e1 k => match q.2.frz e1 k with | .cons z _ => z⟩
  | _ => cases ho
theorem EnvOk.frz {i : Nat} (h : EnvOk K G F S H μ σ ρ) (hm : μ[i]? = some .o) : ∃ S', Ex S S' ∧ EnvOk K G F S' H (μ.set i .d) σ ρ := h.frzM hm rfl

/-- what H has and S has not -/
def rest (H S : Hp) : Hp := fun a => match S a, H a with
  | none, some o => if noTup o = true then some o else none
  | _, _ => none
theorem rest_some {a : Addr} {o : HO} (h : rest H S a = some o) : H a = some o ∧ S a = none := by
  unfold rest at h
  split at h
  · split at h
    · cases h
      exact ⟨by assumption, by assumption⟩
    · cases h
  · cases h
theorem rest_nt {H S : Hp} (a : Addr) (o : HO) (h : rest H S a = some o) : noTup o = true := by
  unfold rest at h
  split at h
  · split at h
    · cases h
      assumption
    · cases h
  · cases h
theorem rest_of {a : Addr} {o : HO} (h : H a = some o) (h2 : S a = none) (h3 : noTup o = true) : rest H S a = some o := by
  unfold rest
  rw [h2, h]
  exact if_pos h3
theorem replicate_get {α : Type} {n i : Nat} {a m : α} (h : (List.replicate n a)[i]? = some m) : m = a ∧ i < n := by
  rw [List.getElem?_replicate] at h
  split at h
  · cases h
    exact ⟨rfl, by assumption⟩
  · cases h
/-- the environment of a callee: its arguments are data -/
theorem EnvOk.args {vs : List V} {ds : List D} (sh : Ex S H) (fk : ∀ a o, F a = some o → H a = some o ∧ S a = none) (ha : DatL K G S vs ds) (k : Nat) :
    EnvOk K G F S H (List.replicate ds.length .d ++ List.replicate k .x) (vs.map some ++ List.replicate k none) (ds ++ List.replicate k .non) := by
  have hl := ha.length
  refine ⟨sh, fk, by simp [hl], by simp, fun _ => [], ⟨fun _ _ h => (by cases h), fun _ _ _ h => (by cases h), fun _ => List.nodup_nil⟩, fun _ _ => rfl, fun i m e => ?_⟩
  by_cases hi : i < ds.length
  · rw [List.getElem?_append_left (by simpa using hi)] at e
    obtain ⟨rfl, _⟩ := replicate_get e
    obtain ⟨v, h1, h2⟩ := ha.get (i := i) (d := ds[i]) (by simp [hi])
    refine ⟨rfl, v, ?_, ?_⟩
    · rw [List.getElem?_append_left (by simp; omega), List.getElem?_map, h1]
      rfl
    · have : (ds ++ List.replicate k D.non).getD i .non = ds[i] := by simp [List.getD, List.getElem?_append_left hi, hi]
      rw [this]
      exact h2
  · rw [List.getElem?_append_right (by simp; omega)] at e
    obtain ⟨rfl, _⟩ := replicate_get e
    rfl
theorem EnvOk.call {vs : List V} {ds : List D} (h : EnvOk K G F S H μ σ ρ) (ha : DatL K G S vs ds) (k : Nat) :
    EnvOk K G ⟨rest H S, fun _ => 0, rest_nt⟩ S H (List.replicate ds.length .d ++ List.replicate k .x) (vs.map some ++ List.replicate k none) (ds ++ List.replicate k .non) :=
  EnvOk.args h.sh (fun _ _ q => rest_some q) ha k
theorem EnvOk.back0 (h : EnvOk K G F S H μ σ ρ) (e : Ex S S') {μ' : List Mode} {σ' : L2.St} {ρ' : List D} {pin : Nat → Addr} (q : EnvOk K G ⟨rest H S, pin, rest_nt⟩ S' H' μ' σ' ρ') : EnvOk K G F S' H' μ σ ρ := by
  refine h.grow e q.sh (fun a o ha nt0 => ?_) fun a o ha nt0 hs => (q.fk a o (rest_of ha hs nt0)).2
  cases z : S a with
  | none => exact (q.fk a o (rest_of ha z nt0)).1
  | some u =>
    have : u = o := by
      have := h.sh _ _ z
      rw [ha] at this
      exact (Option.some.inj this).symm
    subst this
    exact q.sh _ _ (e _ _ z)
/-- behind a call: the result joins -/
theorem EnvOk.back (h : EnvOk K G F S H μ σ ρ) (e : Ex S S') {s : Option V} {μ' : List Mode} {σ' : L2.St} {ρ' : List D} {pin : Nat → Addr} (hr : pinless r = true) (q : EnvOk K G ⟨rest H S, pin, rest_nt⟩ S' H' (r :: μ') (s :: σ') (d :: ρ')) : EnvOk K G F S' H' (r :: μ) (s :: σ) (d :: ρ) := by
  have h2 := h.back0 e q
  obtain ⟨fp, ⟨f1, f2, f3⟩, f4, sl, th⟩ := h.fps
  obtain ⟨fp2, ⟨g1, g2, g3⟩, g4, sl2, th2⟩ := q.fps
  have away : ∀ i a, a ∈ fp i → a ∉ fp2 0 := fun i a ha hb => by
    obtain ⟨o, ho, nt0⟩ := th i a ha
    have z := rest_of ho (f1 i a ha).1 nt0
    rw [show rest H S a = none from (g1 0 a hb).2] at z
    cases z
  have nx : ∀ i m, μ[i]? = some m → SlotOk K G F.pin S' H' m (σ[i]?) (ρ.getD i .non) (fp i) := fun i m e1 => (sl i m e1).mono e fun a ha => by
    obtain ⟨o, ho, nt0⟩ := th i a ha
    rw [ho]
    exact (q.fk a o (rest_of ho (f1 i a ha).1 nt0)).1
  refine ⟨h2.sh, h2.fk, by simp [h2.ls], by simp [h2.lr], fun i => match i with | 0 => fp2 0 | i + 1 => fp i, ⟨?_, ?_, ?_⟩, ?_, ?_⟩
  · intro i a ha
    cases i with
    | zero =>
      refine ⟨(g1 0 a ha).1, ?_⟩
      cases z : F a with
      | none => rfl
      | some o =>
        obtain ⟨z1, z2⟩ := h.fk a o z
        have := rest_of z1 z2 (F.nt a o z)
        rw [show rest H S a = none from (g1 0 a ha).2] at this
        cases this
    | succ i =>
      obtain ⟨o, ho, nt0⟩ := th i a ha
      exact ⟨(q.fk a o (rest_of ho (f1 i a ha).1 nt0)).2, (f1 i a ha).2⟩
  · intro i j a ha hb
    cases i with
    | zero =>
      cases j with
      | zero => rfl
      | succ j => exact absurd ha (away j a hb)
    | succ i =>
      cases j with
      | zero => exact absurd hb (away i a ha)
      | succ j => exact congrArg (· + 1) (f2 i j a ha hb)
  · intro i
    cases i with
    | zero => exact g3 0
    | succ i => exact f3 i
  · intro i hi
    cases i with
    | zero => simp at hi
    | succ i => exact f4 i (by simpa using hi)
  · intro i m e1
    cases i with
    | zero =>
      simp only [List.getElem?_cons_zero, Option.some.injEq] at e1
      subst e1
      have z := (sl2 0 r rfl).repin (pin' := F.pin) hr
      simpa using z
    | succ i =>
      have z := nx i m (by simpa using e1)
      simpa using z
theorem EnvOk.var {i : Nat} (h : EnvOk K G F S H μ σ ρ) (e : μ[i]? = some .d) : ∃ v, σ[i]? = some (some v) ∧ Dat K G S v (ρ.getD i .non) := by
  obtain ⟨fp, _, _, sl⟩ := h.sl
  exact (sl i .d e).2
theorem EnvOk.evar {i : Nat} {a : Addr} (h : EnvOk K G F S H μ σ ρ) (e : μ[i]? = some (.e a)) : σ[i]? = some (some (.ref a)) := by
  obtain ⟨fp, _, _, sl⟩ := h.sl
  exact (sl i (.e a) e).2
theorem own_flat {vs : List V} {ds : List D} {fp : List Addr} (h : OwnL K G S H vs ds fp) (e : fp = []) : DatL K G S vs ds := by
  match h with
  | .nil => exact .nil
  | .dat a t => exact .cons a (own_flat t e)
  | .own a _ =>
    exfalso
    cases a <;> simp at e
theorem EnvOk.ovar {i : Nat} (h : EnvOk K G F S H μ σ ρ) (e : μ[i]? = some .o) : ∃ p, σ[i]? = some (some (.ref p)) ∧ Own K G S H p (ρ.getD i .non) [p] := by
  obtain ⟨fp, _, _, sl⟩ := h.sl
  obtain ⟨p, a, b, c⟩ := sl i .o e
  rw [c] at b
  exact ⟨p, a, b⟩
end
end MR

set_option Elab.async false
set_option linter.all false
set_option maxRecDepth 100000
set_option maxHeartbeats 1000000
/-! MB2: what code comes to over data (RR, Out), soundness of the kit's readings, statements and loops. -/
namespace MR
open PySem L2

inductive RR (α : Type) where
  | ok (a : α) (ρ : List D) | exc (e : Err) (ρ : List D) | bad
inductive Out where
  | nx (ρ : List D) | ret (d : D) (ρ : List D) | brk (ρ : List D) | cnt (ρ : List D) | exc (e : Err) (ρ : List D) | bad
/-- what a def comes to -/
inductive RP where
  | ok (d : D) | exc (e : Err) | bad
abbrev ME := List D → RR D
abbrev MT := List D → RR Bool
abbrev MA := List D → RR (List D)
abbrev MS := List D → Out
abbrev MP := List D → RP
abbrev MB := D → List D → Option (List D)

/-- the exception as the kit tells it: its class, its own dict -/
def ErrAt (G : Cl) (e : Err) (c : Value) (dct : Option Addr) (H : Hp) : Prop :=
  c = .ref (G.eA e.tag) ∧ match e with
    | .line n => ∃ d, dct = some d ∧ H d = some (.xd [(("line" : Str), .int n)])
    | _ => dct = none
abbrev XS := L2.St → XK

/-- what a body is held to: what is wanted of an exception, how a result is handed back, the modes that hold at its ends -/
structure SC where
  E : XS
  rm : Mode
  μx : List Mode
  μb : List Mode
  μc : List Mode

section
variable (K : PySem.W.Frag) (G : Cl)
def XOk (E : XS) (μ : List Mode) (F : Fo) (S : Hp) (σ : L2.St) (e : Err) (ρ' : List D) : Prop :=
  ∀ c dct S' H', Ex S S' → EnvOk K G F S' H' μ σ ρ' → ErrAt G e c dct H' → E σ c dct H'
def EOk (E : XS) (r : Mode) (μ : List Mode) (F : Fo) (S : Hp) (σ : L2.St) (Q : VK) : RR D → Prop
  | .ok d ρ' => ∀ v S' H', Ex S S' → EnvOk K G F S' H' (r :: μ) (some v :: σ) (d :: ρ') → Q v H'
  | .exc e ρ' => XOk K G E μ F S σ e ρ'
  | .bad => False
def TOk (E : XS) (μ : List Mode) (F : Fo) (S : Hp) (σ : L2.St) (Q : Bool → Hp → Prop) : RR Bool → Prop
  | .ok b ρ' => ∀ S' H', Ex S S' → EnvOk K G F S' H' μ σ ρ' → Q b H'
  | .exc e ρ' => XOk K G E μ F S σ e ρ'
  | .bad => False
def AOk (E : XS) (μ : List Mode) (F : Fo) (S : Hp) (σ : L2.St) (Q : List V → Hp → Prop) : RR (List D) → Prop
  | .ok ds ρ' => ∀ vs S' H', Ex S S' → EnvOk K G F S' H' μ σ ρ' → DatL K G S' vs ds → Q vs H'
  | .exc e ρ' => XOk K G E μ F S σ e ρ'
  | .bad => False
/-- what is walked: its items as data; each is the old heap's, or a new tuple of such -/
structure ItOk (F : Fo) (S : Hp) (J : It) (ds : List D) : Prop where
  goes : ∀ i H, i < ds.length → Ex S H → Ex F.hp H → J.go i H
  stops : ∀ H, Ex S H → Ex F.hp H → J.stop ds.length H
  yields : ∀ i H x H' d, ds[i]? = some d → Ex S H → Ex F.hp H → J.yld i H x H' →
    (H' = H ∧ Dat K G S x d) ∨ ∃ T xs es, x = .ref T ∧ H T = none ∧ H' = upd H T (.tup xs) ∧ d = .tup es ∧ DatL K G S xs es
def IOk (E : XS) (μ : List Mode) (F : Fo) (S : Hp) (σ : L2.St) (R : It → Hp → Prop) : RR (List D) → Prop
  | .ok ds ρ' => ∀ J S' H', Ex S S' → EnvOk K G F S' H' μ σ ρ' → ItOk K G F S' J ds → R J H'
  | .exc e ρ' => XOk K G E μ F S σ e ρ'
  | .bad => False
def OutOk (C : SC) (μ' : List Mode) (F : Fo) (S : Hp) (D : Ends) : Out → Prop
  | .nx ρ' => ∀ σ' S' H', Ex S S' → EnvOk K G F S' H' μ' σ' ρ' → D.nx σ' H'
  | .ret d ρ' => ∀ v μ1 σ' S' H', ModesLe C.μx μ1 = true → Ex S S' → EnvOk K G F S' H' (C.rm :: μ1) (some v :: σ') (d :: ρ') → D.rt v H'
  | .brk ρ' => ∀ σ' S' H', Ex S S' → EnvOk K G F S' H' C.μb σ' ρ' → D.bk σ' H'
  | .cnt ρ' => ∀ σ' S' H', Ex S S' → EnvOk K G F S' H' C.μc σ' ρ' → D.ct σ' H'
  | .exc e ρ' => ∀ μ1 σ' c dct S' H', ModesLe C.μx μ1 = true → Ex S S' → EnvOk K G F S' H' μ1 σ' ρ' → ErrAt G e c dct H' → C.E σ' c dct H'
  | .bad => False
def SE (E : XS) (r : Mode) (μ : List Mode) (t : TE) (m : ME) : Prop := ∀ F S H σ ρ, EnvOk K G F S H μ σ ρ → ∀ Q : VK, EOk K G E r μ F S σ Q (m ρ) → t σ H Q
def ST (E : XS) (μ : List Mode) (t : TT) (m : MT) : Prop := ∀ F S H σ ρ, EnvOk K G F S H μ σ ρ → ∀ Q, TOk K G E μ F S σ Q (m ρ) → t σ H Q
def SA (E : XS) (μ : List Mode) (t : TA) (m : MA) : Prop := ∀ F S H σ ρ, EnvOk K G F S H μ σ ρ → ∀ Q, AOk K G E μ F S σ Q (m ρ) → t σ H Q
def SI (E : XS) (μ : List Mode) (t : TI) (m : MA) : Prop := ∀ F S H σ ρ, EnvOk K G F S H μ σ ρ → ∀ R, IOk K G E μ F S σ R (m ρ) → t σ H R
/-- a target: data goes into slots -/
def SG (μ μ' : List Mode) (g : TG) (b : MB) : Prop := ∀ F S H σ ρ v d ρ', EnvOk K G F S H μ σ ρ → Dat K G S v d → b d ρ = some ρ' →
  ∀ Q : L2.St → Hp → Prop, (∀ σ' S' H', Ex S S' → EnvOk K G F S' H' μ' σ' ρ' → Q σ' H') → g v σ H Q
def SS (C : SC) (μ μ' : List Mode) (t : TS) (m : MS) : Prop := ∀ F S H σ ρ, EnvOk K G F S H μ σ ρ → ∀ D : Ends, OutOk K G C μ' F S D (m ρ) → t D σ H
end

section
variable {K : PySem.W.Frag} {G : Cl} {E : XS} {C : SC} {μ μ' : List Mode} {r : Mode} {F : Fo} {S S' : Hp} {σ : L2.St}
theorem XOk.mono {e : Err} {ρ' : List D} (x : Ex S S') (k : XOk K G E μ F S σ e ρ') : XOk K G E μ F S' σ e ρ' := fun c d S2 H2 e2 h2 z => k c d S2 H2 (x.trans e2) h2 z
theorem EOk.mono {Q : VK} (x : Ex S S') : ∀ {o : RR D}, EOk K G E r μ F S σ Q o → EOk K G E r μ F S' σ Q o
  | .ok _ _, k => fun v S2 H2 e2 h2 => k v S2 H2 (x.trans e2) h2
  | .exc _ _, k => XOk.mono x k
  | .bad, k => k
theorem TOk.mono {Q : Bool → Hp → Prop} (x : Ex S S') : ∀ {o : RR Bool}, TOk K G E μ F S σ Q o → TOk K G E μ F S' σ Q o
  | .ok _ _, k => fun S2 H2 e2 h2 => k S2 H2 (x.trans e2) h2
  | .exc _ _, k => XOk.mono x k
  | .bad, k => k
theorem AOk.mono {Q : List V → Hp → Prop} (x : Ex S S') : ∀ {o : RR (List D)}, AOk K G E μ F S σ Q o → AOk K G E μ F S' σ Q o
  | .ok _ _, k => fun v S2 H2 e2 h2 => k v S2 H2 (x.trans e2) h2
  | .exc _ _, k => XOk.mono x k
  | .bad, k => k
theorem IOk.mono {R : It → Hp → Prop} (x : Ex S S') : ∀ {o : RR (List D)}, IOk K G E μ F S σ R o → IOk K G E μ F S' σ R o
  | .ok _ _, k => fun v S2 H2 e2 h2 => k v S2 H2 (x.trans e2) h2
  | .exc _ _, k => XOk.mono x k
  | .bad, k => k
theorem OutOk.mono {D : Ends} (e : Ex S S') : ∀ {o : Out}, OutOk K G C μ' F S D o → OutOk K G C μ' F S' D o
  | .nx _, k => fun σ2 S2 H2 e2 h2 => k σ2 S2 H2 (e.trans e2) h2
  | .ret _ _, k => fun v m1 σ2 S2 H2 l e2 h2 => k v m1 σ2 S2 H2 l (e.trans e2) h2
  | .brk _, k => fun σ2 S2 H2 e2 h2 => k σ2 S2 H2 (e.trans e2) h2
  | .cnt _, k => fun σ2 S2 H2 e2 h2 => k σ2 S2 H2 (e.trans e2) h2
  | .exc _ _, k => fun m1 σ2 c d S2 H2 l e2 h2 => k m1 σ2 c d S2 H2 l (e.trans e2) h2
  | .bad, k => k
end

/-! ### the judgements: a piece of syntax has a kit reading, and that is sound for a mirror -/
structure JE (X : Cx) (G : Cl) (E : XS) (r : Mode) (μ : List Mode) (e : Expr) (m : ME) : Prop where
  ex : ∃ t, PE X e t ∧ SE X.K G E r μ t m
structure JT (X : Cx) (G : Cl) (E : XS) (μ : List Mode) (e : Expr) (m : MT) : Prop where
  ex : ∃ t, PT X e t ∧ ST X.K G E μ t m
structure JW (X : Cx) (G : Cl) (E : XS) (μ : List Mode) (e : Expr) (m : MT) : Prop where
  ex : ∃ t, PW X e t ∧ ST X.K G E μ t m
structure JA (X : Cx) (G : Cl) (E : XS) (μ : List Mode) (es : List Expr) (m : MA) : Prop where
  ex : ∃ t, PA X es t ∧ SA X.K G E μ t m
structure JI (X : Cx) (G : Cl) (E : XS) (μ : List Mode) (tg iter : Expr) (m : MA) : Prop where
  ex : ∃ t, PI X tg iter t ∧ SI X.K G E μ t m
structure JG (X : Cx) (G : Cl) (μ μ' : List Mode) (e : Expr) (b : MB) : Prop where
  ex : ∃ g, PG X e g ∧ SG X.K G μ μ' g b
structure JGs (X : Cx) (G : Cl) (μ μ' : List Mode) (es : List Expr) (b : List D → List D → Option (List D)) : Prop where
  ex : ∃ g, PGs X es g ∧ ∀ F S H σ ρ vs ds ρ', EnvOk X.K G F S H μ σ ρ → DatL X.K G S vs ds → b ds ρ = some ρ' →
    ∀ Q : L2.St → Hp → Prop, (∀ σ' S' H', Ex S S' → EnvOk X.K G F S' H' μ' σ' ρ' → Q σ' H') → g vs σ H Q
structure JS (X : Cx) (G : Cl) (C : SC) (μ μ' : List Mode) (st : Stmt) (m : MS) : Prop where
  ex : ∃ t, PS X st t ∧ SS X.K G C μ μ' t m
structure JSs (X : Cx) (G : Cl) (C : SC) (μ μ' : List Mode) (sts : List Stmt) (m : MS) : Prop where
  ex : ∃ t, PSs X sts t ∧ SS X.K G C μ μ' t m

section
variable {X : Cx} {G : Cl} {E : XS} {C : SC} {μ μ' μ1 : List Mode} {r : Mode}

theorem err_mono {G : Cl} {e : Err} {c : Value} {dct : Option Addr} {H H' : Hp} (x : Ex H H') (h : ErrAt G e c dct H) : ErrAt G e c dct H' := by
  refine ⟨h.1, ?_⟩
  have h2 := h.2
  cases e <;> first | exact h2 | exact (let ⟨d, a, b⟩ := h2; ⟨d, a, x _ _ b⟩)
/-- an exception of an expression, of a statement -/
theorem xout {K : PySem.W.Frag} {F : Fo} {S : Hp} {σ : L2.St} {e : Err} {ρ' : List D} (w : ModesLe C.μx μ = true)
    (k : ∀ μ1 σ' c dct S' H', ModesLe C.μx μ1 = true → Ex S S' → EnvOk K G F S' H' μ1 σ' ρ' → ErrAt G e c dct H' → C.E σ' c dct H') : XOk K G C.E μ F S σ e ρ' :=
  fun c d S' H' e h' z => k μ σ c d S' H' w e h' z

/-! ### blocks -/
def mNext : MS := fun ρ => .nx ρ
def mSeq (a b : MS) : MS := fun ρ => match a ρ with
  | .nx ρ' => b ρ'
  | o => o
theorem jss_nil : JSs X G C μ μ [] mNext := ⟨tNext, pss_nil, fun F S H σ ρ h D k => k σ S H (Evl.Ex.refl S) h⟩
theorem ss_seq {K : PySem.W.Frag} {t u : TS} {a b : MS} (h1 : SS K G C μ μ1 t a) (h2 : SS K G C μ1 μ' u b) : SS K G C μ μ' (tSeq t u) (mSeq a b) := by
  intro F S H σ ρ h D k
  refine h1 F S H σ ρ h { D with nx := u D } ?_
  unfold mSeq at k
  cases q : a ρ with
  | nx ρ' =>
    rw [q] at k
    exact fun σ' S' H' e h' => h2 F S' H' σ' ρ' h' D (OutOk.mono e k)
  | _ => rw [q] at k; exact k
theorem jss_cons {st : Stmt} {rest : List Stmt} {a b : MS} (h1 : JS X G C μ μ1 st a) (h2 : JSs X G C μ1 μ' rest b) : JSs X G C μ μ' (st :: rest) (mSeq a b) := by
  obtain ⟨t, p1, s1⟩ := h1.ex
  obtain ⟨u, p2, s2⟩ := h2.ex
  exact ⟨_, pss_cons p1 p2, ss_seq s1 s2⟩
theorem jss_one {st : Stmt} {a : MS} (h1 : JS X G C μ μ' st a) : JSs X G C μ μ' [st] a := by
  obtain ⟨t, p1, s1⟩ := h1.ex
  exact ⟨_, pss_one p1, s1⟩
/-- slots are forgotten at the end of a block; ahead of a statement -/
def mKeep (μ : List Mode) (a : MS) : MS := fun ρ => match a ρ with
  | .nx ρ' => .nx (keep μ ρ')
  | o => o
theorem jss_weak {sts : List Stmt} {a : MS} (h : JSs X G C μ μ1 sts a) (w : ModesLe μ' μ1 = true := by rfl) : JSs X G C μ μ' sts (mKeep μ' a) := by
  obtain ⟨t, p1, s1⟩ := h.ex
  refine ⟨t, p1, fun F S H σ ρ h D k => s1 F S H σ ρ h D ?_⟩
  unfold mKeep at k
  cases q : a ρ with
  | nx ρ' =>
    rw [q] at k
    exact fun σ' S' H' e h' => k σ' S' H' e (h'.weak w)
  | _ => rw [q] at k; exact k
def mKeep0 (μ : List Mode) (a : MS) : MS := fun ρ => a (keep μ ρ)
theorem js_weak0 {st : Stmt} {a : MS} (h : JS X G C μ1 μ' st a) (w : ModesLe μ1 μ = true := by rfl) : JS X G C μ μ' st (mKeep0 μ1 a) := by
  obtain ⟨t, p1, s1⟩ := h.ex
  exact ⟨t, p1, fun F S H σ ρ h D k => s1 F S H σ _ (h.weak w) D k⟩
theorem js_weak1 {st : Stmt} {a : MS} (h : JS X G C μ μ1 st a) (w : ModesLe μ' μ1 = true := by rfl) : JS X G C μ μ' st (mKeep μ' a) := by
  obtain ⟨t, p1, s1⟩ := h.ex
  refine ⟨t, p1, fun F S H σ ρ h D k => s1 F S H σ ρ h D ?_⟩
  unfold mKeep at k
  cases q : a ρ with
  | nx ρ' =>
    rw [q] at k
    exact fun σ' S' H' e h' => k σ' S' H' e (h'.weak w)
  | _ => rw [q] at k; exact k
/-- an owned slot is frozen ahead of a statement -/
theorem jss_frz {sts : List Stmt} {a : MS} (i : Nat) {mo : Mode} (h : JSs X G C (μ.set i .d) μ' sts a) (e : μ[i]? = some mo := by rfl) (ho : isOwn mo = true := by rfl) : JSs X G C μ μ' sts a := by
  obtain ⟨t, p1, s1⟩ := h.ex
  refine ⟨t, p1, fun F S H σ ρ h D k => ?_⟩
  obtain ⟨S1, e1, h1⟩ := h.frzM e ho
  exact s1 F S1 H σ ρ h1 D (OutOk.mono e1 k)
theorem js_frz {st : Stmt} {a : MS} (i : Nat) {mo : Mode} (h : JS X G C (μ.set i .d) μ' st a) (e : μ[i]? = some mo := by rfl) (ho : isOwn mo = true := by rfl) : JS X G C μ μ' st a := by
  obtain ⟨t, p1, s1⟩ := h.ex
  refine ⟨t, p1, fun F S H σ ρ h D k => ?_⟩
  obtain ⟨S1, e1, h1⟩ := h.frzM e ho
  exact s1 F S1 H σ ρ h1 D (OutOk.mono e1 k)

/-! ### statements -/
def mPass : MS := fun ρ => .nx ρ
theorem js_pass {pos : Pos} : JS X G C μ μ (.Pass pos) mPass := ⟨tNext, ps_pass, fun F S H σ ρ h D k => k σ S H (Evl.Ex.refl S) h⟩
def mBreak : MS := fun ρ => .brk ρ
theorem js_break {pos : Pos} (e : C.μb = μ := by rfl) : JS X G C μ μ' (.Break pos) mBreak := ⟨tBreak, ps_break, fun F S H σ ρ h D k => k σ S H (Evl.Ex.refl S) (e ▸ h)⟩
def mCont : MS := fun ρ => .cnt ρ
theorem js_cont {pos : Pos} (e : C.μc = μ := by rfl) : JS X G C μ μ' (.Continue pos) mCont := ⟨tCont, ps_continue, fun F S H σ ρ h D k => k σ S H (Evl.Ex.refl S) (e ▸ h)⟩
/-- x = e -/
def mAsg (i : Nat) (a : ME) : MS := fun ρ => match a ρ with
  | .ok d ρ' => .nx (ρ'.set i d)
  | .exc e ρ' => .exc e ρ'
  | .bad => .bad
theorem js_asg {i : Nat} {x : Str} {e : Expr} {a : ME} {pos pos' : Pos} (hN : X.N.Nodup) (he : JE X G C.E r μ e a) (hi : X.N[i]? = some x := by rfl) (hx : Loc X.env.scope x := by first | exact Or.inl rfl | exact Or.inr rfl) (hlt : i < μ.length := by decide) (w : ModesLe C.μx μ = true := by rfl)
    (hs : swapsWith e (some (.Name x pos')) pos.line X.env = pure false := by rfl) (hf : X.fn x = true ∨ X.env.scope.names.lookup x = some .local := by first | exact .inl rfl | exact .inr rfl) :
    JS X G C μ (μ.set i r) (.Assign [.Name x pos'] e pos) (mAsg i a) := by
  obtain ⟨t, p1, s1⟩ := he.ex
  refine ⟨_, ps_set hN hi hx p1 hs hf, fun F S H σ ρ h D k => ?_⟩
  refine s1 F S H σ ρ h _ ?_
  unfold mAsg at k
  cases q : a ρ with
  | ok d ρ' => rw [q] at k; exact fun v S' H' e h' => k _ S' H' e (h'.store hlt)
  | exc e ρ' => rw [q] at k; exact xout w k
  | bad => rw [q] at k; exact k
/-- return e -/
def mRet (a : ME) : MS := fun ρ => match a ρ with
  | .ok d ρ' => .ret d ρ'
  | .exc e ρ' => .exc e ρ'
  | .bad => .bad
theorem js_ret {e : Expr} {a : ME} {pos : Pos} (he : JE X G C.E C.rm μ e a) (w : ModesLe C.μx μ = true := by rfl) : JS X G C μ μ' (.Return (some e) pos) (mRet a) := by
  obtain ⟨t, p1, s1⟩ := he.ex
  refine ⟨_, ps_ret p1, fun F S H σ ρ h D k => ?_⟩
  refine s1 F S H σ ρ h _ ?_
  unfold mRet at k
  cases q : a ρ with
  | ok d ρ' => rw [q] at k; exact fun v S' H' e h' => k v μ σ S' H' w e h'
  | exc e ρ' => rw [q] at k; exact xout w k
  | bad => rw [q] at k; exact k
/-- an expression as a statement -/
def mDrop (a : ME) : MS := fun ρ => match a ρ with
  | .ok _ ρ' => .nx ρ'
  | .exc e ρ' => .exc e ρ'
  | .bad => .bad
theorem js_drop {e : Expr} {a : ME} {pos : Pos} (he : JE X G C.E r μ e a) (w : ModesLe C.μx μ = true := by rfl) (hs : swapsWith e none pos.line X.env = pure false := by rfl) : JS X G C μ μ (.Expr e pos) (mDrop a) := by
  obtain ⟨t, p1, s1⟩ := he.ex
  refine ⟨_, ps_expr p1 hs, fun F S H σ ρ h D k => ?_⟩
  refine s1 F S H σ ρ h _ ?_
  unfold mDrop at k
  cases q : a ρ with
  | ok d ρ' => rw [q] at k; exact fun v S' H' e h' => k σ S' H' e h'.tail
  | exc e ρ' => rw [q] at k; exact xout w k
  | bad => rw [q] at k; exact k
/-- if -/
def mIf (c : MT) (a b : MS) : MS := fun ρ => match c ρ with
  | .ok true ρ' => a ρ'
  | .ok false ρ' => b ρ'
  | .exc e ρ' => .exc e ρ'
  | .bad => .bad
theorem js_if {c : Expr} {a b : List Stmt} {mc : MT} {ma mb : MS} {pos : Pos} (hc : JT X G C.E μ c mc) (ha : JSs X G C μ μ' a ma) (hb : JSs X G C μ μ' b mb) (w : ModesLe C.μx μ = true := by rfl) : JS X G C μ μ' (.If c a b pos) (mIf mc ma mb) := by
  obtain ⟨t, p1, s1⟩ := hc.ex
  obtain ⟨ta, p2, s2⟩ := ha.ex
  obtain ⟨tb, p3, s3⟩ := hb.ex
  refine ⟨_, ps_if p1 p2 p3, fun F S H σ ρ h D k => ?_⟩
  refine s1 F S H σ ρ h _ ?_
  unfold mIf at k
  cases q : mc ρ with
  | ok x ρ1 =>
    rw [q] at k
    intro S1 H1 e1 h1
    cases x with
    | true =>
      rw [if_pos rfl]
      exact s2 F S1 H1 σ ρ1 h1 D (OutOk.mono e1 k)
    | false =>
      rw [if_neg Bool.false_ne_true]
      exact s3 F S1 H1 σ ρ1 h1 D (OutOk.mono e1 k)
  | exc e1 ρ1 => rw [q] at k; exact xout w k
  | bad => rw [q] at k; exact k

/-! ### while -/
def whileN (c : MT) (a : MS) : Nat → MS
  | 0, _ => .bad
  | n + 1, ρ => match c ρ with
    | .ok true ρ1 => match a ρ1 with
      | .nx ρ2 => whileN c a n ρ2
      | .cnt ρ2 => whileN c a n ρ2
      | .brk ρ2 => .nx ρ2
      | o => o
    | .ok false ρ1 => .nx ρ1
    | .exc e ρ1 => .exc e ρ1
    | .bad => .bad
def mWhile (fuel : List D → Nat) (c : MT) (a : MS) : MS := fun ρ => whileN c a (fuel ρ) ρ
theorem js_while {c : Expr} {body : List Stmt} {mc : MT} {mb : MS} {pos : Pos} (fuel : List D → Nat) (hp : PassesOwn (model X.prog X.w) X.A X.env X.xe) (hc : JT X G C.E μ c mc)
    (hb : JSs X G { C with μb := μ, μc := μ } μ μ body mb) (w : ModesLe C.μx μ = true := by rfl) : JS X G C μ μ (.While c body [] pos) (mWhile fuel mc mb) := by
  obtain ⟨t, p1, s1⟩ := hc.ex
  obtain ⟨tb, p2, s2⟩ := hb.ex
  refine ⟨_, ps_while hp p1 p2, fun F S H σ ρ h D k => ?_⟩
  refine ⟨fun n σ1 H1 => ∃ S1 ρ1, EnvOk X.K G F S1 H1 μ σ1 ρ1 ∧ OutOk X.K G C μ F S1 D (whileN mc mb n ρ1), ⟨fuel ρ, S, ρ, h, k⟩, ?_⟩
  rintro n σ1 H1 ⟨S1, ρ1, h1, k1⟩
  cases n with
  | zero => exact k1.elim
  | succ n =>
    refine s1 F S1 H1 σ1 ρ1 h1 _ ?_
    unfold whileN at k1
    cases q : mc ρ1 with
    | ok x ρ2 =>
      rw [q] at k1
      intro S2 H2 e2 h2
      cases x with
      | true =>
        rw [if_pos rfl]
        refine ⟨fun σ3 H3 => ∃ S3 ρ3, EnvOk X.K G F S3 H3 μ σ3 ρ3 ∧ OutOk X.K G C μ F S3 D (whileN mc mb n ρ3), fun σ3 H3 z => ⟨n, Nat.lt_succ_self n, z⟩, ?_⟩
        refine s2 F S2 H2 σ1 ρ2 h2 _ ?_
        have k2 := OutOk.mono e2 k1
        simp only at k2
        cases q2 : mb ρ2 with
        | nx ρ3 => rw [q2] at k2; exact fun σ3 S3 H3 e3 h3 => ⟨S3, ρ3, h3, OutOk.mono e3 k2⟩
        | cnt ρ3 => rw [q2] at k2; exact fun σ3 S3 H3 e3 h3 => ⟨S3, ρ3, h3, OutOk.mono e3 k2⟩
        | brk ρ3 => rw [q2] at k2; exact fun σ3 S3 H3 e3 h3 => k2 σ3 S3 H3 e3 h3
        | ret d ρ3 => rw [q2] at k2; exact fun v m1 σ3 S3 H3 l e3 h3 => k2 v m1 σ3 S3 H3 l e3 h3
        | exc d ρ3 => rw [q2] at k2; exact fun m1 σ3 c d S3 H3 l e3 h3 => k2 m1 σ3 c d S3 H3 l e3 h3
        | bad => rw [q2] at k2; exact k2
      | false =>
        rw [if_neg Bool.false_ne_true]
        exact k1 σ1 S2 H2 e2 h2
    | exc e1 ρ2 => rw [q] at k1; exact xout w k1
    | bad => rw [q] at k1; exact k1

/-! ### for -/
def forL (b : MB) (a : MS) : List D → MS
  | [], ρ => .nx ρ
  | d :: ds, ρ => match b d ρ with
    | none => .bad
    | some ρ1 => match a ρ1 with
      | .nx ρ2 => forL b a ds ρ2
      | .cnt ρ2 => forL b a ds ρ2
      | .brk ρ2 => .nx ρ2
      | o => o
def mFor (it : MA) (b : MB) (a : MS) : MS := fun ρ => match it ρ with
  | .ok ds ρ1 => forL b a ds ρ1
  | .exc e ρ1 => .exc e ρ1
  | .bad => .bad
/-- a yielded item, the heap behind it -/
theorem ItOk.item {K : PySem.W.Frag} {F : Fo} {S S0 H H' : Hp} {σ : L2.St} {ρ : List D} {J : It} {ds : List D} {i : Nat} {x : V} {d : D} {F0 : Fo} (w : ItOk K G F0 S0 J ds) (h : EnvOk K G F S H μ σ ρ) (e : Ex S0 S) (ef : Ex F0.hp H) (hd : ds[i]? = some d) (y : J.yld i H x H') :
    ∃ S', Ex S S' ∧ EnvOk K G F S' H' μ σ ρ ∧ Dat K G S' x d := by
  rcases w.yields i H x H' d hd (e.trans h.sh) ef y with ⟨rfl, q⟩ | ⟨T, xs, es, rfl, hT, rfl, rfl, q⟩
  · exact ⟨S, Evl.Ex.refl S, h, q.mono e⟩
  · have hS : S T = none := ex_none h.sh hT
    have e1 : Ex S (upd S T (.tup xs)) := Evl.Ex.new hS
    refine ⟨upd S T (.tup xs), e1, h.grow e1 (fun a o ha => ?_) (fun a o q _ => Evl.Ex.new hT a o q) fun a o ha _ hs => ?_, .tup (Or.inl (Or.inl upd_same)) ((q.mono e).mono e1)⟩
    · by_cases z : a = T
      · subst z
        rw [upd_same] at ha ⊢
        exact ha
      · rw [upd_ne z] at ha ⊢
        exact h.sh _ _ ha
    · rw [upd_ne (ne_of_none ha hT)]
      exact hs
theorem js_for {tg iter : Expr} {body : List Stmt} {mi : MA} {b : MB} {mb : MS} {pos : Pos} (hp : PassesOwn (model X.prog X.w) X.A X.env X.xe) (hi : JI X G C.E μ tg iter mi) (hg : JG X G μ μ1 tg b)
    (hb : JSs X G { C with μb := μ, μc := μ } μ1 μ body mb) (hc : X.calm = true := by rfl) (w : ModesLe C.μx μ = true := by rfl)
    (hs : ∀ x, foldedSetIterable iter X.env x = pure x := by intro _; rfl) : JS X G C μ μ (.For tg iter body [] pos) (mFor mi b mb) := by
  obtain ⟨ti, p1, s1⟩ := hi.ex
  obtain ⟨g, p2, s2⟩ := hg.ex
  obtain ⟨tb, p3, s3⟩ := hb.ex
  refine ⟨_, ps_for hp hc p1 p2 p3 hs, fun F S H σ ρ h D k => ?_⟩
  refine s1 F S H σ ρ h _ ?_
  unfold mFor at k
  cases q : mi ρ with
  | ok ds ρ1 =>
    rw [q] at k
    intro J S1 H1 e1 h1 it
    refine ⟨fun i m σ2 H2 => m = ds.length - i ∧ i ≤ ds.length ∧ ∃ S2 ρ2, Ex S1 S2 ∧ EnvOk X.K G F S2 H2 μ σ2 ρ2 ∧ OutOk X.K G C μ F S2 D (forL b mb (ds.drop i) ρ2), ⟨ds.length, by simp, Nat.zero_le _, S1, ρ1, Evl.Ex.refl S1, h1, OutOk.mono e1 k⟩, ?_⟩
    rintro i m σ2 H2 ⟨rfl, hi, S2, ρ2, e2, h2, k2⟩
    by_cases hlt : i < ds.length
    · refine .inr ⟨it.goes i H2 hlt (e2.trans h2.sh) h2.fx, fun σ3 H3 => ∃ S3 ρ3, Ex S1 S3 ∧ EnvOk X.K G F S3 H3 μ σ3 ρ3 ∧ OutOk X.K G C μ F S3 D (forL b mb (ds.drop (i + 1)) ρ3), fun σ3 H3 z => ⟨ds.length - (i + 1), by omega, rfl, hlt, z⟩, fun x H' y => ?_⟩
      obtain ⟨S3, e3, h3, q3⟩ := it.item h2 e2 h2.fx (List.getElem?_eq_getElem hlt) y
      rw [List.drop_eq_getElem_cons hlt] at k2
      unfold forL at k2
      cases q4 : b ds[i] ρ2 with
      | none => rw [q4] at k2; exact k2.elim
      | some ρ3 =>
        rw [q4] at k2
        refine s2 F S3 H' σ2 ρ2 x _ ρ3 h3 q3 q4 _ fun σ3 S4 H4 e4 h4 => ?_
        refine s3 F S4 H4 σ3 ρ3 h4 _ ?_
        have k3 := OutOk.mono (e3.trans e4) k2
        simp only at k3
        cases q5 : mb ρ3 with
        | nx ρ4 => rw [q5] at k3; exact fun σ5 S5 H5 e5 h5 => ⟨S5, ρ4, ((e2.trans e3).trans e4).trans e5, h5, OutOk.mono e5 k3⟩
        | cnt ρ4 => rw [q5] at k3; exact fun σ5 S5 H5 e5 h5 => ⟨S5, ρ4, ((e2.trans e3).trans e4).trans e5, h5, OutOk.mono e5 k3⟩
        | brk ρ4 => rw [q5] at k3; exact fun σ5 S5 H5 e5 h5 => k3 σ5 S5 H5 e5 h5
        | ret d ρ4 => rw [q5] at k3; exact fun v m1 σ5 S5 H5 l e5 h5 => k3 v m1 σ5 S5 H5 l e5 h5
        | exc d ρ4 => rw [q5] at k3; exact fun m1 σ5 c d S5 H5 l e5 h5 => k3 m1 σ5 c d S5 H5 l e5 h5
        | bad => rw [q5] at k3; exact k3
    · have e4 : i = ds.length := by omega
      subst e4
      rw [List.drop_length] at k2
      exact .inl ⟨it.stops H2 (e2.trans h2.sh) h2.fx, k2 σ2 S2 H2 (Evl.Ex.refl S2) h2⟩
  | exc e1 ρ1 => rw [q] at k; exact xout w k
  | bad => rw [q] at k; exact k
end
end MR

set_option Elab.async false
set_option linter.all false
set_option maxRecDepth 100000
set_option maxHeartbeats 1000000
/-! MB3: expressions: names, constants, operators, comparisons, subscripts, displays, calls of builtins. -/
namespace MR
open PySem L2 PyProof.Rows

def RR.bind {α β : Type} (o : RR α) (k : α → List D → RR β) : RR β := match o with
  | .ok a ρ => k a ρ
  | .exc e ρ => .exc e ρ
  | .bad => .bad
theorem bind_ok {α β : Type} (a : α) (ρ : List D) (k : α → List D → RR β) : (RR.ok a ρ).bind k = k a ρ := rfl
theorem bind_exc {α β : Type} (e : Err) (ρ : List D) (k : α → List D → RR β) : (RR.exc e ρ).bind k = .exc e ρ := rfl
theorem bind_bad {α β : Type} (k : α → List D → RR β) : (RR.bad : RR α).bind k = .bad := rfl
def RR.of {α : Type} (o : Option α) (ρ : List D) : RR α := match o with
  | some a => .ok a ρ
  | none => .bad
theorem of_some {α : Type} (a : α) (ρ : List D) : RR.of (some a) ρ = .ok a ρ := rfl
theorem of_none {α : Type} (ρ : List D) : (RR.of none ρ : RR α) = .bad := rfl

section
variable {K : PySem.W.Frag} {G : Cl} {E : XS} {μ : List Mode} {r : Mode} {F : Fo} {S H : Hp} {σ : L2.St} {ρ : List D}
/-- what a value rule hands on -/
def RVal (K : PySem.W.Frag) (G : Cl) (μ : List Mode) (F : Fo) (S : Hp) (σ : L2.St) (ρ : List D) (r : Mode) (z : D) (Q : VK) : Prop := ∀ v S' H', Ex S S' → EnvOk K G F S' H' (r :: μ) (some v :: σ) (z :: ρ) → Q v H'
theorem RVal.dat {z : D} {Q : VK} {v : V} {S' H' : Hp} (k : RVal K G μ F S σ ρ .d z Q) (e : Ex S S') (h : EnvOk K G F S' H' μ σ ρ) (q : Dat K G S' v z) : Q v H' := k v S' H' e (h.push q)
/-- a new object that is known from now on -/
theorem EnvOk.alloc {p : Addr} {o : HO} (h : EnvOk K G F S H μ σ ρ) (hp : H p = none) : Ex S (upd S p o) ∧ EnvOk K G F (upd S p o) (upd H p o) μ σ ρ := by
  have hS : S p = none := ex_none h.sh hp
  refine ⟨Evl.Ex.new hS, h.grow (Evl.Ex.new hS) (fun a u q => ?_) (fun a o q _ => Evl.Ex.new hp a o q) fun a u q1 _ q2 => ?_⟩
  · by_cases e : a = p
    · subst e
      rw [upd_same] at q ⊢
      exact q
    · rw [upd_ne e] at q ⊢
      exact h.sh _ _ q
  · rw [upd_ne (ne_of_none q1 hp)]
    exact q2
theorem RVal.tup {ds : List D} {Q : VK} {vs : List V} {p : Addr} (k : RVal K G μ F S σ ρ .d (.tup ds) Q) (h : EnvOk K G F S H μ σ ρ) (q : DatL K G S vs ds) (hp : H p = none) : Q (.ref p) (upd H p (.tup vs)) := by
  obtain ⟨e, h'⟩ := h.alloc (o := .tup vs) hp
  exact k.dat e h' (.tup (Or.inl (Or.inl upd_same)) (q.mono e))
theorem RVal.lst {ds : List D} {Q : VK} {vs : List V} {p : Addr} (k : RVal K G μ F S σ ρ .d (.lst ds) Q) (h : EnvOk K G F S H μ σ ρ) (q : DatL K G S vs ds) (hp : H p = none) : Q (.ref p) (upd H p (.lst vs)) := by
  obtain ⟨e, h'⟩ := h.alloc (o := .lst vs) hp
  exact k.dat e h' (.lst upd_same (q.mono e))
theorem RVal.lstO {ds : List D} {Q : VK} {vs : List V} {p : Addr} (k : RVal K G μ F S σ ρ .o (.lst ds) Q) (h : EnvOk K G F S H μ σ ρ) (q : DatL K G S vs ds) (hp : H p = none) : Q (.ref p) (upd H p (.lst vs)) :=
  k _ _ _ (Evl.Ex.refl S) (h.pushO hp (.lst upd_same q.ownL))
/-- a new list, frozen or owned -/
theorem RVal.new {ds : List D} {Q : VK} {vs : List V} {p : Addr} (hr : r = .d ∨ r = .o) (k : RVal K G μ F S σ ρ r (.lst ds) Q) (h : EnvOk K G F S H μ σ ρ) (q : DatL K G S vs ds) (hp : H p = none) : Q (.ref p) (upd H p (.lst vs)) := by
  rcases hr with rfl | rfl
  · exact k.lst h q hp
  · exact k.lstO h q hp
/-- operations by values -/
def OpD (K : PySem.W.Frag) (G : Cl) (rm : Mode) (t : R2) (f : D → D → Option D) : Prop := ∀ F S H μ σ ρ x y dx dy z, EnvOk K G F S H μ σ ρ → Dat K G S x dx → Dat K G S y dy → f dx dy = some z → ∀ Q : VK, RVal K G μ F S σ ρ rm z Q → t x y H Q
def OpB (K : PySem.W.Frag) (G : Cl) (t : R2) (f : D → D → Option Bool) : Prop := ∀ F S H μ σ ρ x y dx dy b, EnvOk K G F S H μ σ ρ → Dat K G S x dx → Dat K G S y dy → f dx dy = some b → ∀ Q : VK, Q (.bl b) H → t x y H Q
def UnD (K : PySem.W.Frag) (G : Cl) (t : V → Hp → VK → Prop) (f : D → Option D) : Prop := ∀ F S H μ σ ρ x dx z, EnvOk K G F S H μ σ ρ → Dat K G S x dx → f dx = some z → ∀ Q : VK, RVal K G μ F S σ ρ .d z Q → t x H Q
def CallD (K : PySem.W.Frag) (G : Cl) (rm : Mode) (t : List V → Hp → VK → Prop) (f : List D → Option D) : Prop := ∀ F S H μ σ ρ vs ds z, EnvOk K G F S H μ σ ρ → DatL K G S vs ds → f ds = some z → ∀ Q : VK, RVal K G μ F S σ ρ rm z Q → t vs H Q
theorem OpD.or {rm : Mode} {t u : R2} {f g : D → D → Option D} (h1 : OpD K G rm t f) (h2 : OpD K G rm u g) : OpD K G rm (fun x y H Q => t x y H Q ∨ u x y H Q) (fun x y => match f x y with | some z => some z | none => g x y) := by
  intro F S H μ σ ρ x y dx dy z h q1 q2 e Q k
  dsimp only at e
  cases e1 : f dx dy with
  | some z' =>
    rw [e1] at e
    cases e
    exact .inl (h1 F S H μ σ ρ x y dx dy _ h q1 q2 e1 Q k)
  | none =>
    rw [e1] at e
    exact .inr (h2 F S H μ σ ρ x y dx dy _ h q1 q2 e Q k)
theorem OpB.or {t u : R2} {f g : D → D → Option Bool} (h1 : OpB K G t f) (h2 : OpB K G u g) : OpB K G (fun x y H Q => t x y H Q ∨ u x y H Q) (fun x y => match f x y with | some z => some z | none => g x y) := by
  intro F S H μ σ ρ x y dx dy z h q1 q2 e Q k
  dsimp only at e
  cases e1 : f dx dy with
  | some z' =>
    rw [e1] at e
    cases e
    exact .inl (h1 F S H μ σ ρ x y dx dy _ h q1 q2 e1 Q k)
  | none =>
    rw [e1] at e
    exact .inr (h2 F S H μ σ ρ x y dx dy _ h q1 q2 e Q k)
theorem CallD.or {rm : Mode} {t u : List V → Hp → VK → Prop} {f g : List D → Option D} (h1 : CallD K G rm t f) (h2 : CallD K G rm u g) : CallD K G rm (fun x H Q => t x H Q ∨ u x H Q) (fun x => match f x with | some z => some z | none => g x) := by
  intro F S H μ σ ρ x dx z h q1 e Q k
  dsimp only at e
  cases e1 : f dx with
  | some z' =>
    rw [e1] at e
    cases e
    exact .inl (h1 F S H μ σ ρ x dx _ h q1 e1 Q k)
  | none =>
    rw [e1] at e
    exact .inr (h2 F S H μ σ ρ x dx _ h q1 e Q k)
end

section
variable {X : Cx} {G : Cl} {E : XS} {C : SC} {μ μ' μ1 : List Mode} {r : Mode}
/-! ### names, constants -/
def mVar (i : Nat) : ME := fun ρ => .ok (ρ.getD i .non) ρ
theorem je_var (i : Nat) {x : Str} {pos : Pos} (e : μ[i]? = some .d := by rfl) (hN : X.N[i]? = some x := by rfl) (hv : Vis X.env.scope x := by first | exact Or.inl rfl | exact Or.inr (Or.inl rfl) | exact Or.inr (Or.inr rfl)) (hd : (x == ("__debug__" : Str)) = false := by decide)
    (hcd : (x == ("__classdict__" : Str)) = false := by decide) : JE X G E .d μ (.Name x pos) (mVar i) :=
  ⟨_, pe_var hN hv hd hcd, fun F S H σ ρ h Q k => by
    obtain ⟨v, q1, q2⟩ := h.var e
    exact ⟨v, q1, k v S H (Evl.Ex.refl S) (h.push q2)⟩⟩
def mC (d : D) : ME := fun ρ => .ok d ρ
theorem je_int {i j pos} : JE X G E .d μ (.Constant (.int i) j pos) (mC (.int i)) := ⟨_, pe_int, fun F S H σ ρ h Q k => k _ S H (Evl.Ex.refl S) (h.push (.int i))⟩
theorem je_bl {b j pos} : JE X G E .d μ (.Constant (.bool b) j pos) (mC (.bl b)) := ⟨_, pe_bl, fun F S H σ ρ h Q k => k _ S H (Evl.Ex.refl S) (h.push (.bl b))⟩
theorem je_non {j pos} : JE X G E .d μ (.Constant .none j pos) (mC .non) := ⟨_, pe_non, fun F S H σ ρ h Q k => k _ S H (Evl.Ex.refl S) (h.push .non)⟩
theorem je_str {x j pos} : JE X G E .d μ (.Constant (.str x) j pos) (mC (.str x)) := ⟨_, pe_str, fun F S H σ ρ h Q k => k _ S H (Evl.Ex.refl S) (h.push (.str x))⟩
/-- a module's constant -/
theorem je_glob {x : Str} {v : V} {u : Value} {d : D} {pos : Pos} (hg : Gl X x) (hm : X.mg x = some u) (rv : RelV v u) (q : ∀ S, Dat X.K G S v d) (hd : (x == ("__debug__" : Str)) = false := by decide) : JE X G E .d μ (.Name x pos) (mC d) :=
  ⟨_, pe_glob hg hm rv hd, fun F S H σ ρ h Q k => k _ S H (Evl.Ex.refl S) (h.push (q S))⟩

/-! ### operators -/
def mOp (f : D → D → Option D) (a b : ME) : ME := fun ρ => (a ρ).bind fun x ρ1 => (b ρ1).bind fun y ρ2 => RR.of (f x y) ρ2
theorem se_op {K : PySem.W.Frag} {t : R2} {f : D → D → Option D} {ta tb : TE} {a b : ME} (hd : OpD K G r t f) (s1 : SE K G E .d μ ta a) (s2 : SE K G E .d μ tb b) : SE K G E r μ (tOp t ta tb) (mOp f a b) := by
  intro F S H σ ρ h Q k
  refine s1 F S H σ ρ h _ ?_
  unfold mOp at k
  cases q : a ρ with
  | ok x ρ1 =>
    rw [q] at k
    intro v S1 H1 e1 h1
    refine s2 F S1 H1 σ ρ1 h1.tail _ ?_
    have k2 := EOk.mono e1 k
    rw [bind_ok] at k2
    cases q2 : b ρ1 with
    | ok y ρ2 =>
      rw [q2, bind_ok] at k2
      intro w S2 H2 e2 h2
      cases q3 : f x y with
      | some z =>
        rw [q3] at k2
        exact hd F S2 H2 μ σ ρ2 v w x y z h2.tail (h1.head.mono e2) h2.head q3 Q fun u S3 H3 e3 h3 => k2 u S3 H3 (e2.trans e3) h3
      | none =>
        rw [q3] at k2
        exact k2.elim
    | exc e ρ2 => rw [q2] at k2; exact k2
    | bad => rw [q2] at k2; exact k2
  | exc e ρ1 => rw [q] at k; exact k
  | bad => rw [q] at k; exact k
theorem je_op {op : Operator} {t : R2} {f : D → D → Option D} {a b : Expr} {ma mb : ME} {pos : Pos} (ho : OpR X (binaryOp op) t) (hd : OpD X.K G r t f) (ha : JE X G E .d μ a ma) (hb : JE X G E .d μ b mb) : JE X G E r μ (.BinOp a op b pos) (mOp f ma mb) := by
  obtain ⟨t1, p1, s1⟩ := ha.ex
  obtain ⟨t2, p2, s2⟩ := hb.ex
  exact ⟨_, pe_op ho p1 p2, se_op hd s1 s2⟩
/-- ints -/
def CMulX (i j : Int) : Prop := i.natAbs.log2 + j.natAbs.log2 < 134000000
instance {i j : Int} : Decidable (CMulX i j) := by unfold CMulX; infer_instance
theorem CMulX.ok {i j : Int} (h : CMulX i j) : IntMulOk i j := by
  have b : ∀ x : Int, Builtin.Int.intBits x ≤ x.natAbs.log2 + 1 := fun x => by
    unfold Builtin.Int.intBits
    split <;> omega
  have h1 := b i
  have h2 := b j
  have h3 : i.natAbs.log2 + j.natAbs.log2 < 134000000 := h
  have e : bitsLine = 134217728 := by decide
  unfold IntMulOk
  intro z
  rw [Bool.and_eq_true] at z
  have z2 := z.2
  unfold Builtin.Int.intTooBig at z2
  have z3 := of_decide_eq_true z2
  rw [e] at z3
  omega
theorem op_mulX : OpR X (binaryOp .Mult) (rI CMulX fun i j => .int (i * j)) := opI fun _ _ _ _ _ _ _ hc q => mul_int q hc.ok
def CDivX (i j : Int) : Prop := j ≠ 0 ∧ Builtin.divisionGoesByPylong i j = false
instance {i j : Int} : Decidable (CDivX i j) := by unfold CDivX; infer_instance
theorem op_fdivX : OpR X (binaryOp .FloorDiv) (rI CDivX fun i j => .int (i.fdiv j)) := opI fun _ _ _ _ _ _ _ hc q => floordiv_int hc.1 q (.inl hc.2)
def fInt (g : Int → Int → Int) : D → D → Option D
  | .int i, .int j => some (.int (g i j))
  | _, _ => none
def fIntC (c : Int → Int → Prop) [∀ i j, Decidable (c i j)] (g : Int → Int → Int) : D → D → Option D
  | .int i, .int j => if c i j then some (.int (g i j)) else none
  | _, _ => none
theorem opd_int {K : PySem.W.Frag} {g : Int → Int → Int} : OpD K G .d (rI0 fun i j => .int (g i j)) (fInt g) := by
  intro F S H μ σ ρ x y dx dy z h q1 q2 e Q k
  unfold fInt at e
  split at e
  · cases e
    cases q1
    cases q2
    exact ⟨_, _, rfl, rfl, k.dat (Evl.Ex.refl S) h (.int _)⟩
  · cases e
theorem opd_intC {K : PySem.W.Frag} {c : Int → Int → Prop} [∀ i j, Decidable (c i j)] {g : Int → Int → Int} : OpD K G .d (rI c fun i j => .int (g i j)) (fIntC c g) := by
  intro F S H μ σ ρ x y dx dy z h q1 q2 e Q k
  unfold fIntC at e
  split at e
  · split at e
    · cases e
      cases q1
      cases q2
      exact ⟨_, _, rfl, rfl, by assumption, k.dat (Evl.Ex.refl S) h (.int _)⟩
    · cases e
  · cases e
def fStrAdd : D → D → Option D
  | .str a, .str b => if a.length + b.length ≤ sizeLine then some (.str (a ++ b)) else none
  | _, _ => none
theorem opd_str {K : PySem.W.Frag} : OpD K G .d (fun x y H Q => ∃ i j, x = .str i ∧ y = .str j ∧ i.length + j.length ≤ sizeLine ∧ Q (.str (i ++ j)) H) fStrAdd := by
  intro F S H μ σ ρ x y dx dy z h q1 q2 e Q k
  unfold fStrAdd at e
  split at e
  · split at e
    · cases e
      cases q1
      cases q2
      exact ⟨_, _, rfl, rfl, by assumption, k.dat (Evl.Ex.refl S) h (.str _)⟩
    · cases e
  · cases e
def fTupAdd : D → D → Option D
  | .tup a, .tup b => if a.isEmpty = false ∧ b.isEmpty = false ∧ a.length + b.length ≤ sizeLine then some (.tup (a ++ b)) else none
  | _, _ => none
theorem opd_tup {K : PySem.W.Frag} : OpD K G .d (rCatT K) fTupAdd := by
  intro F S H μ σ ρ x y dx dy z h q1 q2 e Q k
  unfold fTupAdd at e
  split at e
  · rename_i da db
    split at e
    · rename_i hc
      obtain ⟨c1, c2, c3⟩ := hc
      cases e
      cases q1 with
      | tup a1 a2 =>
        cases q2 with
        | tup b1 b2 =>
          have l1 := a2.length
          have l2 := b2.length
          refine ⟨_, _, _, _, rfl, rfl, Evl.ex_t h.sh a1, Evl.ex_t h.sh b1, ?_, by omega, fun z => ?_, fun _ p hp => k.tup h (a2.append b2) hp⟩
          · intro z
            subst z
            cases a2
            simp at c1
          · subst z
            cases b2
            simp at c2
    · cases e
  · cases e
def fLstAdd : D → D → Option D
  | .lst a, .lst b => if a.length + b.length ≤ sizeLine then some (.lst (a ++ b)) else none
  | _, _ => none
theorem opd_lst {K : PySem.W.Frag} (hr : r = .d ∨ r = .o) : OpD K G r rCat fLstAdd := by
  intro F S H μ σ ρ x y dx dy z h q1 q2 e Q k
  unfold fLstAdd at e
  split at e
  · rename_i da db
    split at e
    · cases e
      cases q1 with
      | lst a1 a2 =>
        cases q2 with
        | lst b1 b2 =>
          have l1 := a2.length
          have l2 := b2.length
          exact ⟨_, _, _, _, rfl, rfl, h.sh _ _ a1, h.sh _ _ b1, by omega, fun p hp => k.new hr h (a2.append b2) hp⟩
    · cases e
  · cases e
/-- + of ints, texts, tuples, lists -/
def fAdd : D → D → Option D
  | .int i, .int j => some (.int (i + j))
  | .str a, .str b => fStrAdd (.str a) (.str b)
  | .tup a, .tup b => fTupAdd (.tup a) (.tup b)
  | .lst a, .lst b => fLstAdd (.lst a) (.lst b)
  | _, _ => none
def rAddAll (K : PySem.W.Frag) : R2 := fun x y H Q => (rI0 fun i j => .int (i + j)) x y H Q ∨ (∃ i j, x = .str i ∧ y = .str j ∧ i.length + j.length ≤ sizeLine ∧ Q (.str (i ++ j)) H) ∨ rCatT K x y H Q ∨ rCat x y H Q
theorem op_addAll : OpR X (binaryOp .Add) (rAddAll X.K) := op_add.or (op_add_str.or (op_catT.or op_cat))
theorem opd_add {K : PySem.W.Frag} : OpD K G .d (rAddAll K) fAdd := by
  intro F S H μ σ ρ x y dx dy z h q1 q2 e Q k
  unfold fAdd at e
  split at e
  · exact .inl (opd_int F S H μ σ ρ x y _ _ z h q1 q2 e Q k)
  · exact .inr (.inl (opd_str F S H μ σ ρ x y _ _ z h q1 q2 e Q k))
  · exact .inr (.inr (.inl (opd_tup F S H μ σ ρ x y _ _ z h q1 q2 e Q k)))
  · exact .inr (.inr (.inr (opd_lst (.inl rfl) F S H μ σ ρ x y _ _ z h q1 q2 e Q k)))
  · cases e
theorem je_add {a b : Expr} {ma mb : ME} {pos : Pos} (ha : JE X G E .d μ a ma) (hb : JE X G E .d μ b mb) : JE X G E .d μ (.BinOp a .Add b pos) (mOp fAdd ma mb) := je_op op_addAll opd_add ha hb
theorem je_addO {a b : Expr} {ma mb : ME} {pos : Pos} (ha : JE X G E .d μ a ma) (hb : JE X G E .d μ b mb) : JE X G E .o μ (.BinOp a .Add b pos) (mOp fLstAdd ma mb) := je_op op_cat (opd_lst (.inr rfl)) ha hb
theorem je_sub {a b : Expr} {ma mb : ME} {pos : Pos} (ha : JE X G E .d μ a ma) (hb : JE X G E .d μ b mb) : JE X G E .d μ (.BinOp a .Sub b pos) (mOp (fInt (· - ·)) ma mb) := je_op op_sub opd_int ha hb
theorem je_mul {a b : Expr} {ma mb : ME} {pos : Pos} (ha : JE X G E .d μ a ma) (hb : JE X G E .d μ b mb) : JE X G E .d μ (.BinOp a .Mult b pos) (mOp (fIntC CMulX (· * ·)) ma mb) := je_op op_mulX opd_intC ha hb
theorem je_div {a b : Expr} {ma mb : ME} {pos : Pos} (ha : JE X G E .d μ a ma) (hb : JE X G E .d μ b mb) : JE X G E .d μ (.BinOp a .FloorDiv b pos) (mOp (fIntC CDivX Int.fdiv) ma mb) := je_op op_fdivX opd_intC ha hb
def CModX (_ j : Int) : Prop := j ≠ 0
instance {i j : Int} : Decidable (CModX i j) := by unfold CModX; infer_instance
theorem je_mod {a b : Expr} {ma mb : ME} {pos : Pos} (ha : JE X G E .d μ a ma) (hb : JE X G E .d μ b mb) : JE X G E .d μ (.BinOp a .Mod b pos) (mOp (fIntC CModX Int.fmod) ma mb) := je_op (r := .d) (t := rI CModX fun i j => .int (i.fmod j)) op_modN opd_intC ha hb
instance {i j : Int} : Decidable (CPow i j) := by unfold CPow; infer_instance
theorem je_pow {a b : Expr} {ma mb : ME} {pos : Pos} (ha : JE X G E .d μ a ma) (hb : JE X G E .d μ b mb) : JE X G E .d μ (.BinOp a .Pow b pos) (mOp (fIntC CPow fun i j => i ^ j.toNat) ma mb) := je_op op_pow opd_intC ha hb
/-- -a -/
def mUn (f : D → Option D) (a : ME) : ME := fun ρ => (a ρ).bind fun x ρ1 => RR.of (f x) ρ1
theorem je_un {op : UnaryOp} {t : V → Hp → VK → Prop} {f : D → Option D} {a : Expr} {ma : ME} {pos : Pos} (ho : UnR X (unaryOp op) t) (hd : UnD X.K G t f) (ha : JE X G E .d μ a ma) : JE X G E .d μ (.UnaryOp op a pos) (mUn f ma) := by
  obtain ⟨t1, p1, s1⟩ := ha.ex
  refine ⟨_, pe_un ho p1, fun F S H σ ρ h Q k => ?_⟩
  refine s1 F S H σ ρ h _ ?_
  unfold mUn at k
  cases q : ma ρ with
  | ok x ρ1 =>
    rw [q, bind_ok] at k
    intro v S1 H1 e1 h1
    cases q3 : f x with
    | some z =>
      rw [q3] at k
      exact hd F S1 H1 μ σ ρ1 v x z h1.tail h1.head q3 Q fun u S3 H3 e3 h3 => k u S3 H3 (e1.trans e3) h3
    | none => rw [q3] at k; exact k.elim
  | exc e ρ1 => rw [q] at k; exact k
  | bad => rw [q] at k; exact k
def fNeg : D → Option D
  | .int i => some (.int (-i))
  | _ => none
theorem je_neg {a : Expr} {ma : ME} {pos : Pos} (ha : JE X G E .d μ a ma) : JE X G E .d μ (.UnaryOp .USub a pos) (mUn fNeg ma) := je_un un_neg (fun F S H μ σ ρ x dx z h q e Q k => by
  unfold fNeg at e
  split at e
  · cases e
    cases q
    exact ⟨_, rfl, k.dat (Evl.Ex.refl S) h (.int _)⟩
  · cases e) ha

/-! ### comparisons -/
def mCmp (f : D → D → Option Bool) (a b : ME) : ME := mOp (fun x y => (f x y).map .bl) a b
def mCmpT (f : D → D → Option Bool) (a b : ME) : MT := fun ρ => (a ρ).bind fun x ρ1 => (b ρ1).bind fun y ρ2 => RR.of (f x y) ρ2
theorem OpB.opd {K : PySem.W.Frag} {t : R2} {f : D → D → Option Bool} (h : OpB K G t f) : OpD K G .d t (fun x y => (f x y).map .bl) := by
  intro F S H μ σ ρ x y dx dy z e q1 q2 q3 Q k
  dsimp only at q3
  cases q : f dx dy with
  | some b =>
    rw [q] at q3
    cases q3
    exact h F S H μ σ ρ x y dx dy b e q1 q2 q Q (k.dat (Evl.Ex.refl S) e (.bl b))
  | none => rw [q] at q3; cases q3
theorem je_cmp {op : CmpOp} {t : R2} {f : D → D → Option Bool} {a b : Expr} {ma mb : ME} {pos : Pos} (ho : OpR X (compareOp op) t) (hd : OpB X.K G t f) (ha : JE X G E .d μ a ma) (hb : JE X G E .d μ b mb)
    (hm : behindInMarks op b = false := by first | rfl | exact nomark _) : JE X G E .d μ (.Compare a [op] [b] pos) (mCmp f ma mb) := by
  obtain ⟨t1, p1, s1⟩ := ha.ex
  obtain ⟨t2, p2, s2⟩ := hb.ex
  exact ⟨_, pe_cmpR ho p1 p2 hm, se_op hd.opd s1 s2⟩
theorem jt_cmp {op : CmpOp} {t : R2} {f : D → D → Option Bool} {a b : Expr} {ma mb : ME} {pos : Pos} (ho : OpR X (compareOp op) t) (hd : OpB X.K G t f) (ha : JE X G E .d μ a ma) (hb : JE X G E .d μ b mb)
    (hm : behindInMarks op b = false := by first | rfl | exact nomark _) : JT X G E μ (.Compare a [op] [b] pos) (mCmpT f ma mb) := by
  obtain ⟨ta, p1, s1⟩ := ha.ex
  obtain ⟨tb, p2, s2⟩ := hb.ex
  refine ⟨_, pt_cmpR ho p1 p2 hm, fun F S H σ ρ h Q k => ?_⟩
  refine s1 F S H σ ρ h _ ?_
  unfold mCmpT at k
  cases q : ma ρ with
  | ok x ρ1 =>
    rw [q] at k
    intro v S1 H1 e1 h1
    refine s2 F S1 H1 σ ρ1 h1.tail _ ?_
    have k2 := TOk.mono e1 k
    rw [bind_ok] at k2
    cases q2 : mb ρ1 with
    | ok y ρ2 =>
      rw [q2, bind_ok] at k2
      intro w S2 H2 e2 h2
      cases q3 : f x y with
      | some z =>
        rw [q3] at k2
        exact hd F S2 H2 μ σ ρ2 v w x y z h2.tail (h1.head.mono e2) h2.head q3 _ ⟨z, rfl, k2 S2 H2 e2 h2.tail⟩
      | none => rw [q3] at k2; exact k2.elim
    | exc e ρ2 => rw [q2] at k2; exact k2
    | bad => rw [q2] at k2; exact k2
  | exc e ρ1 => rw [q] at k; exact k
  | bad => rw [q] at k; exact k
def fLt : D → D → Option Bool
  | .int i, .int j => some (decide (i < j))
  | .str a, .str b => some (decide (a.cps.toList < b.cps.toList))
  | _, _ => none
def fLe : D → D → Option Bool
  | .int i, .int j => some (decide (i ≤ j))
  | .str a, .str b => some (!decide (b.cps.toList < a.cps.toList))
  | _, _ => none
def fGt : D → D → Option Bool
  | .int i, .int j => some (decide (j < i))
  | .str a, .str b => some (decide (b.cps.toList < a.cps.toList))
  | _, _ => none
def fGe : D → D → Option Bool
  | .int i, .int j => some (decide (j ≤ i))
  | .str a, .str b => some (!decide (a.cps.toList < b.cps.toList))
  | _, _ => none
def rIS (p : Int → Int → Bool) (q : Str → Str → Bool) : R2 := fun x y H Q => (rI0 fun i j => .bl (p i j)) x y H Q ∨ ∃ i j, x = .str i ∧ y = .str j ∧ Q (.bl (q i j)) H
theorem opb_lt {K : PySem.W.Frag} : OpB K G (rIS (fun i j => decide (i < j)) fun i j => decide (i.cps.toList < j.cps.toList)) fLt := by
  intro F S H μ σ ρ x y dx dy z e q1 q2 q3 Q k
  unfold fLt at q3
  split at q3 <;> cases q3 <;> cases q1 <;> cases q2
  · exact .inl ⟨_, _, rfl, rfl, k⟩
  · exact .inr ⟨_, _, rfl, rfl, k⟩
theorem opb_le {K : PySem.W.Frag} : OpB K G (rIS (fun i j => decide (i ≤ j)) fun i j => !decide (j.cps.toList < i.cps.toList)) fLe := by
  intro F S H μ σ ρ x y dx dy z e q1 q2 q3 Q k
  unfold fLe at q3
  split at q3 <;> cases q3 <;> cases q1 <;> cases q2
  · exact .inl ⟨_, _, rfl, rfl, k⟩
  · exact .inr ⟨_, _, rfl, rfl, k⟩
theorem opb_gt {K : PySem.W.Frag} : OpB K G (rIS (fun i j => decide (j < i)) fun i j => decide (j.cps.toList < i.cps.toList)) fGt := by
  intro F S H μ σ ρ x y dx dy z e q1 q2 q3 Q k
  unfold fGt at q3
  split at q3 <;> cases q3 <;> cases q1 <;> cases q2
  · exact .inl ⟨_, _, rfl, rfl, k⟩
  · exact .inr ⟨_, _, rfl, rfl, k⟩
theorem opb_ge {K : PySem.W.Frag} : OpB K G (rIS (fun i j => decide (j ≤ i)) fun i j => !decide (i.cps.toList < j.cps.toList)) fGe := by
  intro F S H μ σ ρ x y dx dy z e q1 q2 q3 Q k
  unfold fGe at q3
  split at q3 <;> cases q3 <;> cases q1 <;> cases q2
  · exact .inl ⟨_, _, rfl, rfl, k⟩
  · exact .inr ⟨_, _, rfl, rfl, k⟩
theorem opr_lt : OpR X (compareOp .Lt) (rIS (fun i j => decide (i < j)) fun i j => decide (i.cps.toList < j.cps.toList)) := op_lt.or op_lt_str
theorem opr_le : OpR X (compareOp .LtE) (rIS (fun i j => decide (i ≤ j)) fun i j => !decide (j.cps.toList < i.cps.toList)) := op_le.or op_le_str
theorem opr_gt : OpR X (compareOp .Gt) (rIS (fun i j => decide (j < i)) fun i j => decide (j.cps.toList < i.cps.toList)) := op_gt.or op_gt_str
theorem opr_ge : OpR X (compareOp .GtE) (rIS (fun i j => decide (j ≤ i)) fun i j => !decide (i.cps.toList < j.cps.toList)) := op_ge.or op_ge_str
/-! equality -/
mutual
def toPy : D → Option PyData
  | .non => some .none
  | .bl b => some (.bool b)
  | .int i => some (.int i)
  | .str x => some (.str x)
  | .tup ds => (toPys ds).map .tuple
  | .lst ds => (toPys ds).map .list
  | _ => none
def toPys : List D → Option (List PyData)
  | [] => some []
  | d :: ds => match toPy d, toPys ds with
    | some p, some ps => some (p :: ps)
    | _, _ => none
end
mutual
theorem toPy_dp {K : PySem.W.Frag} {S : Hp} : ∀ {v : V} {d : D} {p : PyData}, Dat K G S v d → toPy d = some p → Dp K S v p
  | _, _, _, .non, e => by simp only [toPy, Option.some.injEq] at e; subst e; exact .non
  | _, _, _, .bl b, e => by simp only [toPy, Option.some.injEq] at e; subst e; exact .bl b
  | _, _, _, .int i, e => by simp only [toPy, Option.some.injEq] at e; subst e; exact .int i
  | _, _, _, .str x, e => by simp only [toPy, Option.some.injEq] at e; subst e; exact .str x
  | _, _, _, .tup h1 h2, e => by
    simp only [toPy, Option.map_eq_some_iff] at e
    obtain ⟨ps, e1, rfl⟩ := e
    exact .tup h1 (toPys_dp h2 e1)
  | _, _, _, .lst h1 h2, e => by
    simp only [toPy, Option.map_eq_some_iff] at e
    obtain ⟨ps, e1, rfl⟩ := e
    exact .lst (Or.inl (Or.inl h1)) (toPys_dp h2 e1)
  | _, _, _, .scr _, e => by simp [toPy] at e
  | _, _, _, .dK _ _ _, e => by simp [toPy] at e
  | _, _, _, .dT _ _ _, e => by simp [toPy] at e
  | _, _, _, .ins _ _ _, e => by simp [toPy] at e
theorem toPys_dp {K : PySem.W.Frag} {S : Hp} : ∀ {vs : List V} {ds : List D} {ps : List PyData}, DatL K G S vs ds → toPys ds = some ps → DpAll K S vs ps
  | _, _, _, .nil, e => by simp only [toPys, Option.some.injEq] at e; subst e; exact .nil
  | _, _, _, .cons (d := d) (ds := ds) h t, e => by
    simp only [toPys] at e
    cases q1 : toPy d with
    | none => rw [q1] at e; cases e
    | some p =>
      cases q2 : toPys ds with
      | none => rw [q1, q2] at e; cases e
      | some ps =>
        rw [q1, q2] at e
        simp only [Option.some.injEq] at e
        subst e
        exact .cons (toPy_dp h q1) (toPys_dp t q2)
end
mutual
theorem dp_mono {K : PySem.W.Frag} {S H : Hp} (e : Ex S H) : ∀ {v : V} {p : PyData}, Dp K S v p → Dp K H v p
  | _, _, .non => .non
  | _, _, .bl b => .bl b
  | _, _, .int b => .int b
  | _, _, .str b => .str b
  | _, _, .lst h t => .lst (Evl.ex_l e h) (dps_mono e t)
  | _, _, .tup h t => .tup (Evl.ex_t e h) (dps_mono e t)
theorem dps_mono {K : PySem.W.Frag} {S H : Hp} (e : Ex S H) : ∀ {v : List V} {p : List PyData}, DpAll K S v p → DpAll K H v p
  | _, _, .nil => .nil
  | _, _, .cons h t => .cons (dp_mono e h) (dps_mono e t)
end
/-- == of data (where the kit's rule serves it) -/
def fEqD (a b : D) : Option Bool := match toPy a, toPy b with
  | some p, some q => if SeqAt.shaped p = true ∧ SeqAt.shaped q = true then some (PyData.eqv p q) else none
  | _, _ => none
def fEq : D → D → Option Bool
  | .int i, .int j => some (decide (i = j))
  | .str a, .str b => some (decide (a = b))
  | .bl a, .bl b => some (decide (a = b))
  | a, b => fEqD a b
def fNe (a b : D) : Option Bool := (fEq a b).map (!·)
def rEqAll (K : PySem.W.Frag) : R2 := fun x y H Q => rEq x y H Q ∨ rEqD K x y H Q
def rNeAll (K : PySem.W.Frag) : R2 := fun x y H Q => rNe x y H Q ∨ rNeD K x y H Q
theorem opb_eq {K : PySem.W.Frag} : OpB K G (rEqAll K) fEq := by
  intro F S H μ σ ρ x y dx dy z e q1 q2 q3 Q k
  unfold fEq at q3
  split at q3
  · cases q3
    cases q1
    cases q2
    refine .inl ⟨rfl, ?_⟩
    simpa using k
  · cases q3
    cases q1
    cases q2
    refine .inl ⟨rfl, ?_⟩
    simpa using k
  · cases q3
    cases q1
    cases q2
    refine .inl ⟨rfl, ?_⟩
    simpa using k
  · unfold fEqD at q3
    split at q3
    · rename_i p q e1 e2
      split at q3
      · rename_i hc
        cases q3
        exact .inr ⟨p, q, dp_mono e.sh (toPy_dp q1 e1), dp_mono e.sh (toPy_dp q2 e2), hc.1, hc.2, k⟩
      · cases q3
    · cases q3
theorem opb_ne {K : PySem.W.Frag} : OpB K G (rNeAll K) fNe := by
  intro F S H μ σ ρ x y dx dy z e q1 q2 q3 Q k
  unfold fNe fEq at q3
  split at q3
  · cases q3
    cases q1
    cases q2
    refine .inl ⟨rfl, ?_⟩
    simpa using k
  · cases q3
    cases q1
    cases q2
    refine .inl ⟨rfl, ?_⟩
    simpa using k
  · cases q3
    cases q1
    cases q2
    refine .inl ⟨rfl, ?_⟩
    simpa using k
  · unfold fEqD at q3
    split at q3
    · rename_i p q e1 e2
      split at q3
      · rename_i hc
        cases q3
        exact .inr ⟨p, q, dp_mono e.sh (toPy_dp q1 e1), dp_mono e.sh (toPy_dp q2 e2), hc.1, hc.2, k⟩
      · cases q3
    · cases q3
theorem opr_eq (hu : X.A.units + 64 < cLine) : OpR X (compareOp .Eq) (rEqAll X.K) := op_eq.or (op_eqD hu)
theorem opr_ne (hu : X.A.units + 64 < cLine) : OpR X (compareOp .NotEq) (rNeAll X.K) := op_ne.or (op_neD hu)
/-! is None -/
def fIsN : D → D → Option Bool
  | .non, .non => some true
  | _, .non => some false
  | _, _ => none
def fNotN (a b : D) : Option Bool := (fIsN a b).map (!·)
theorem opb_isN {K : PySem.W.Frag} : OpB K G (fun x y H Q => y = .non ∧ Q (.bl (decide (x = .non))) H) fIsN := by
  intro F S H μ σ ρ x y dx dy z e q1 q2 q3 Q k
  unfold fIsN at q3
  split at q3
  · cases q3
    cases q1
    cases q2
    exact ⟨rfl, k⟩
  · rename_i hn
    cases q3
    cases q2
    refine ⟨rfl, ?_⟩
    have : decide (x = V.non) = false := by
      apply decide_eq_false
      rintro rfl
      cases q1
      exact hn rfl
    rw [this]
    exact k
  · cases q3
theorem opb_notN {K : PySem.W.Frag} : OpB K G (fun x y H Q => y = .non ∧ Q (.bl (!decide (x = .non))) H) fNotN := by
  intro F S H μ σ ρ x y dx dy z e q1 q2 q3 Q k
  unfold fNotN at q3
  cases q : fIsN dx dy with
  | none => rw [q] at q3; cases q3
  | some b =>
    rw [q] at q3
    cases q3
    obtain ⟨z1, z2⟩ := opb_isN F S H μ σ ρ x y dx dy b e q1 q2 q (fun v H' => ∃ c, v = .bl c ∧ Q (.bl (!c)) H') ⟨b, rfl, k⟩
    obtain ⟨c, z3, z4⟩ := z2
    cases z3
    exact ⟨z1, z4⟩
/-! in -/
def flatD : D → Bool
  | .non => true
  | .bl _ => true
  | .int _ => true
  | .str _ => true
  | _ => false
def eqF : D → D → Bool
  | .non, .non => true
  | .bl a, .bl b => a == b
  | .bl a, .int b => (if a then 1 else 0) == b
  | .int a, .bl b => a == (if b then 1 else 0)
  | .int a, .int b => a == b
  | .str a, .str b => a == b
  | _, _ => false
theorem flat_of {K : PySem.W.Frag} {S : Hp} {v : V} {d : D} (h : Dat K G S v d) (f : flatD d = true) : flatV v = true := by
  cases h <;> first | rfl | (simp [flatD] at f)
theorem flats_of {K : PySem.W.Frag} {S : Hp} : ∀ {vs : List V} {ds : List D}, DatL K G S vs ds → ds.all flatD = true → vs.all flatV = true
  | _, _, .nil, _ => rfl
  | _, _, .cons h t, f => by
    simp only [List.all_cons, Bool.and_eq_true] at f ⊢
    exact ⟨flat_of h f.1, flats_of t f.2⟩
theorem eqV_of {K : PySem.W.Frag} {S : Hp} {v w : V} {d e : D} (h : Dat K G S v d) (h2 : Dat K G S w e) (f : flatD d = true) (f2 : flatD e = true) : eqV v w = eqF d e := by
  cases h <;> first | (simp [flatD] at f; done) | skip
  all_goals (cases h2 <;> first | (simp [flatD] at f2; done) | rfl)
theorem inV_of {K : PySem.W.Frag} {S : Hp} {v : V} {d : D} (h : Dat K G S v d) (f : flatD d = true) : ∀ {vs : List V} {ds : List D}, DatL K G S vs ds → ds.all flatD = true → inV v vs = ds.any fun y => eqF y d
  | _, _, .nil, _ => rfl
  | _, _, .cons q t, g => by
    simp only [List.all_cons, Bool.and_eq_true] at g
    have := inV_of h f t g.2
    unfold inV at this ⊢
    simp only [List.any_cons]
    rw [eqV_of q h g.1 f, this]
def fIn : D → D → Option Bool
  | x, .lst ds => if flatD x = true ∧ ds.all flatD = true then some (ds.any fun y => eqF y x) else none
  | x, .tup ds => if flatD x = true ∧ ds.all flatD = true then some (ds.any fun y => eqF y x) else none
  | .str a, .str z => if a.cps.size = 1 then some (decide (a.cps.getD 0 0 ∈ z.cps.toList)) else none
  | _, _ => none
theorem str_one {a : Str} (h : a.cps.size = 1) : a = ⟨#[a.cps.getD 0 0]⟩ := by
  obtain ⟨cps⟩ := a
  obtain ⟨l⟩ := cps
  match l, h with
  | [c], _ => rfl
def fNotIn (a b : D) : Option Bool := (fIn a b).map (!·)
def rInAll (K : PySem.W.Frag) : R2 := fun x y H Q => rIn K false x y H Q ∨ ∃ (c : Nat) (z : Str), x = .str ⟨#[c]⟩ ∧ y = .str z ∧ Q (.bl (decide (c ∈ z.cps.toList))) H
def rNotInAll (K : PySem.W.Frag) : R2 := fun x y H Q => rIn K true x y H Q ∨ ∃ (c : Nat) (z : Str), x = .str ⟨#[c]⟩ ∧ y = .str z ∧ Q (.bl (!decide (c ∈ z.cps.toList))) H
theorem opb_in {K : PySem.W.Frag} : OpB K G (rInAll K) fIn := by
  intro F S H μ σ ρ x y dx dy z e q1 q2 q3 Q k
  unfold fIn at q3
  split at q3
  · split at q3
    · rename_i hc
      cases q3
      cases q2 with
      | lst a1 a2 => exact .inl ⟨_, _, rfl, .inl (Or.inl (Or.inl (e.sh _ _ a1))), flat_of q1 hc.1, flats_of a2 hc.2, by rw [if_neg Bool.false_ne_true, inV_of q1 hc.1 a2 hc.2]; exact k⟩
    · cases q3
  · split at q3
    · rename_i hc
      cases q3
      cases q2 with
      | tup a1 a2 => exact .inl ⟨_, _, rfl, .inr (Evl.ex_t e.sh a1), flat_of q1 hc.1, flats_of a2 hc.2, by rw [if_neg Bool.false_ne_true, inV_of q1 hc.1 a2 hc.2]; exact k⟩
    · cases q3
  · split at q3
    · rename_i hc
      cases q3
      cases q1
      cases q2
      exact .inr ⟨_, _, congrArg V.str (str_one hc), rfl, k⟩
    · cases q3
  · cases q3
theorem opb_notIn {K : PySem.W.Frag} : OpB K G (rNotInAll K) fNotIn := by
  intro F S H μ σ ρ x y dx dy z e q1 q2 q3 Q k
  unfold fNotIn fIn at q3
  split at q3
  · split at q3
    · rename_i hc
      cases q3
      cases q2 with
      | lst a1 a2 => exact .inl ⟨_, _, rfl, .inl (Or.inl (Or.inl (e.sh _ _ a1))), flat_of q1 hc.1, flats_of a2 hc.2, by rw [if_pos rfl, inV_of q1 hc.1 a2 hc.2]; exact k⟩
    · cases q3
  · split at q3
    · rename_i hc
      cases q3
      cases q2 with
      | tup a1 a2 => exact .inl ⟨_, _, rfl, .inr (Evl.ex_t e.sh a1), flat_of q1 hc.1, flats_of a2 hc.2, by rw [if_pos rfl, inV_of q1 hc.1 a2 hc.2]; exact k⟩
    · cases q3
  · split at q3
    · rename_i hc
      cases q3
      cases q1
      cases q2
      exact .inr ⟨_, _, congrArg V.str (str_one hc), rfl, k⟩
    · cases q3
  · cases q3
theorem opr_in : OpR X (compareOp .In) (rInAll X.K) := op_in_seq.or op_in_sign
theorem opr_notIn : OpR X (compareOp .NotIn) (rNotInAll X.K) := op_notIn_seq.or op_notIn_sign
end
end MR

set_option Elab.async false
set_option linter.all false
set_option maxRecDepth 100000
set_option maxHeartbeats 1000000
/-! MB4: tests, arguments, displays, subscripts, slices, calls of builtins. -/
namespace MR
open PySem L2 PyProof.Rows
section
variable {X : Cx} {G : Cl} {E : XS} {C : SC} {μ μ' μ1 : List Mode} {r : Mode}

/-! ### tests -/
theorem jw_pt {e : Expr} {m : MT} (h : JW X G E μ e m) : JT X G E μ e m := let ⟨t, p, s⟩ := h.ex; ⟨t, p.pt, s⟩
theorem jw_and1 {a : Expr} {m : MT} {pos : Pos} (h : JT X G E μ a m) : JW X G E μ (.BoolOp .And [a] pos) m := let ⟨t, p, s⟩ := h.ex; ⟨t, pw_and1 p, s⟩
theorem jw_or1 {a : Expr} {m : MT} {pos : Pos} (h : JT X G E μ a m) : JW X G E μ (.BoolOp .Or [a] pos) m := let ⟨t, p, s⟩ := h.ex; ⟨t, pw_or1 p, s⟩
def mAnd (a b : MT) : MT := fun ρ => (a ρ).bind fun x ρ1 => if x = true then b ρ1 else .ok false ρ1
def mOr (a b : MT) : MT := fun ρ => (a ρ).bind fun x ρ1 => if x = true then .ok true ρ1 else b ρ1
def mNot (a : MT) : MT := fun ρ => (a ρ).bind fun x ρ1 => .ok (!x) ρ1
theorem jw_and {a b : Expr} {rest : List Expr} {ma mb : MT} {pos : Pos} (ha : JT X G E μ a ma) (hb : JW X G E μ (.BoolOp .And (b :: rest) pos) mb) : JW X G E μ (.BoolOp .And (a :: b :: rest) pos) (mAnd ma mb) := by
  obtain ⟨t1, p1, s1⟩ := ha.ex
  obtain ⟨t2, p2, s2⟩ := hb.ex
  refine ⟨_, pw_and p1 p2, fun F S H σ ρ h Q k => s1 F S H σ ρ h _ ?_⟩
  unfold mAnd at k
  cases q : ma ρ with
  | ok x ρ1 =>
    rw [q, bind_ok] at k
    intro S1 H1 e1 h1
    cases x with
    | true =>
      rw [if_pos rfl] at k ⊢
      exact s2 F S1 H1 σ ρ1 h1 Q (TOk.mono e1 k)
    | false =>
      rw [if_neg Bool.false_ne_true] at k ⊢
      exact k S1 H1 e1 h1
  | exc e ρ1 => rw [q] at k; exact k
  | bad => rw [q] at k; exact k
theorem jw_or {a b : Expr} {rest : List Expr} {ma mb : MT} {pos : Pos} (ha : JT X G E μ a ma) (hb : JW X G E μ (.BoolOp .Or (b :: rest) pos) mb) : JW X G E μ (.BoolOp .Or (a :: b :: rest) pos) (mOr ma mb) := by
  obtain ⟨t1, p1, s1⟩ := ha.ex
  obtain ⟨t2, p2, s2⟩ := hb.ex
  refine ⟨_, pw_or p1 p2, fun F S H σ ρ h Q k => s1 F S H σ ρ h _ ?_⟩
  unfold mOr at k
  cases q : ma ρ with
  | ok x ρ1 =>
    rw [q, bind_ok] at k
    intro S1 H1 e1 h1
    cases x with
    | true =>
      rw [if_pos rfl] at k ⊢
      exact k S1 H1 e1 h1
    | false =>
      rw [if_neg Bool.false_ne_true] at k ⊢
      exact s2 F S1 H1 σ ρ1 h1 Q (TOk.mono e1 k)
  | exc e ρ1 => rw [q] at k; exact k
  | bad => rw [q] at k; exact k
theorem jt_not {a : Expr} {ma : MT} {pos : Pos} (ha : JT X G E μ a ma) : JT X G E μ (.UnaryOp .Not a pos) (mNot ma) := by
  obtain ⟨t1, p1, s1⟩ := ha.ex
  refine ⟨_, pt_not p1, fun F S H σ ρ h Q k => s1 F S H σ ρ h _ ?_⟩
  unfold mNot at k
  cases q : ma ρ with
  | ok x ρ1 => rw [q, bind_ok] at k; exact k
  | exc e ρ1 => rw [q] at k; exact k
  | bad => rw [q] at k; exact k
/-- the truth of data -/
def truth : D → Option Bool
  | .non => some false
  | .bl b => some b
  | .int i => some (i != 0)
  | .str s => if s.length ≤ sizeLine then some ((s.length : Int) != 0) else none
  | .lst ds => some (!ds.isEmpty)
  | .tup ds => some (!ds.isEmpty)
  | .scr ds => some (!ds.isEmpty)
  | _ => none
theorem truth_ok {K : PySem.W.Frag} {S H : Hp} (e : Ex S H) {v : V} {d : D} {b : Bool} (h : Dat K G S v d) (q : truth d = some b) : TruV K v H b := by
  have emp : ∀ {vs : List V} {ds : List D}, DatL K G S vs ds → vs.isEmpty = ds.isEmpty := fun h => by cases h <;> rfl
  cases h with
  | non => cases q; rfl
  | bl b => cases q; rfl
  | int i => cases q; rfl
  | str s =>
    have q' : (if s.length ≤ sizeLine then some ((s.length : Int) != 0) else none) = some b := q
    split at q'
    · cases q'
      exact ⟨by assumption, rfl⟩
    · cases q'
  | lst h1 h2 => cases q; exact .inl ⟨_, .inl (.inl (e _ _ h1)), by rw [emp h2]⟩
  | tup h1 h2 => cases q; exact .inr (.inl ⟨_, Evl.ex_t e h1, by rw [emp h2]⟩)
  | scr h1 => cases q; exact .inl ⟨_, Evl.ex_l e h1, by rw [List.isEmpty_map]⟩
  | dK _ _ _ => cases q
  | dT _ _ _ => cases q
  | ins _ _ _ => cases q
def mTr (a : ME) : MT := fun ρ => (a ρ).bind fun x ρ1 => RR.of (truth x) ρ1
theorem jt_tr {a : Expr} {ma : ME} (ha : JE X G E .d μ a ma) (he : ∀ whole, isTrue a X.env whole = (do let v ← whole; standAt a.pos; holding [v] (truthy v)) := by intro _; rfl) : JT X G E μ a (mTr ma) := by
  obtain ⟨t1, p1, s1⟩ := ha.ex
  refine ⟨_, pt_truth p1 he, fun F S H σ ρ h Q k => s1 F S H σ ρ h _ ?_⟩
  unfold mTr at k
  cases q : ma ρ with
  | ok x ρ1 =>
    rw [q, bind_ok] at k
    cases q2 : truth x with
    | some b =>
      rw [q2] at k
      exact fun v S1 H1 e1 h1 => ⟨b, truth_ok h1.sh h1.head q2, k S1 H1 e1 h1.tail⟩
    | none => rw [q2] at k; exact k.elim
  | exc e ρ1 => rw [q] at k; exact k
  | bad => rw [q] at k; exact k
/-- .. as values: bools -/
def mAndV (a b : ME) : ME := fun ρ => (a ρ).bind fun x ρ1 => match x with
  | .bl true => b ρ1
  | .bl false => .ok (.bl false) ρ1
  | _ => .bad
def mOrV (a b : ME) : ME := fun ρ => (a ρ).bind fun x ρ1 => match x with
  | .bl true => .ok (.bl true) ρ1
  | .bl false => b ρ1
  | _ => .bad
def fNotV : D → Option D
  | .bl b => some (.bl (!b))
  | _ => none
theorem je_one {op} {a : Expr} {m : ME} {pos : Pos} (h : JE X G E r μ a m) : JE X G E r μ (.BoolOp op [a] pos) m := let ⟨t, p, s⟩ := h.ex; ⟨t, pe_one p, s⟩
theorem je_and {a b : Expr} {rest : List Expr} {ma mb : ME} {pos : Pos} (ha : JE X G E .d μ a ma) (hb : JE X G E .d μ (.BoolOp .And (b :: rest) pos) mb) : JE X G E .d μ (.BoolOp .And (a :: b :: rest) pos) (mAndV ma mb) := by
  obtain ⟨t1, p1, s1⟩ := ha.ex
  obtain ⟨t2, p2, s2⟩ := hb.ex
  refine ⟨_, pe_and p1 p2, fun F S H σ ρ h Q k => s1 F S H σ ρ h _ ?_⟩
  unfold mAndV at k
  cases q : ma ρ with
  | ok x ρ1 =>
    rw [q, bind_ok] at k
    intro v S1 H1 e1 h1
    have hd := h1.head
    split at k
    · cases hd
      exact ⟨true, rfl, by rw [if_pos rfl]; exact s2 F S1 H1 σ ρ1 h1.tail Q (EOk.mono e1 k)⟩
    · cases hd
      exact ⟨false, rfl, by rw [if_neg Bool.false_ne_true]; exact k _ S1 H1 e1 (h1.tail.push (.bl false))⟩
    · exact k.elim
  | exc e ρ1 => rw [q] at k; exact k
  | bad => rw [q] at k; exact k
theorem je_or {a b : Expr} {rest : List Expr} {ma mb : ME} {pos : Pos} (ha : JE X G E .d μ a ma) (hb : JE X G E .d μ (.BoolOp .Or (b :: rest) pos) mb) : JE X G E .d μ (.BoolOp .Or (a :: b :: rest) pos) (mOrV ma mb) := by
  obtain ⟨t1, p1, s1⟩ := ha.ex
  obtain ⟨t2, p2, s2⟩ := hb.ex
  refine ⟨_, pe_or p1 p2, fun F S H σ ρ h Q k => s1 F S H σ ρ h _ ?_⟩
  unfold mOrV at k
  cases q : ma ρ with
  | ok x ρ1 =>
    rw [q, bind_ok] at k
    intro v S1 H1 e1 h1
    have hd := h1.head
    split at k
    · cases hd
      exact ⟨true, rfl, by rw [if_pos rfl]; exact k _ S1 H1 e1 (h1.tail.push (.bl true))⟩
    · cases hd
      exact ⟨false, rfl, by rw [if_neg Bool.false_ne_true]; exact s2 F S1 H1 σ ρ1 h1.tail Q (EOk.mono e1 k)⟩
    · exact k.elim
  | exc e ρ1 => rw [q] at k; exact k
  | bad => rw [q] at k; exact k
theorem je_not {a : Expr} {ma : ME} {pos : Pos} (ha : JE X G E .d μ a ma) : JE X G E .d μ (.UnaryOp .Not a pos) (mUn fNotV ma) := by
  obtain ⟨t1, p1, s1⟩ := ha.ex
  refine ⟨_, pe_not p1, fun F S H σ ρ h Q k => s1 F S H σ ρ h _ ?_⟩
  unfold mUn at k
  cases q : ma ρ with
  | ok x ρ1 =>
    rw [q, bind_ok] at k
    intro v S1 H1 e1 h1
    have hd := h1.head
    unfold fNotV at k
    split at k
    · cases hd
      exact ⟨_, rfl, k _ S1 H1 e1 (h1.tail.push (.bl _))⟩
    · exact k.elim
  | exc e ρ1 => rw [q] at k; exact k
  | bad => rw [q] at k; exact k
/-- a if t else b -/
def mIfE (t : MT) (a b : ME) : ME := fun ρ => (t ρ).bind fun x ρ1 => if x = true then a ρ1 else b ρ1
theorem je_if {c a b : Expr} {mc : MT} {ma mb : ME} {pos : Pos} (hc : JT X G E μ c mc) (ha : JE X G E r μ a ma) (hb : JE X G E r μ b mb) : JE X G E r μ (.IfExp c a b pos) (mIfE mc ma mb) := by
  obtain ⟨t0, p0, s0⟩ := hc.ex
  obtain ⟨t1, p1, s1⟩ := ha.ex
  obtain ⟨t2, p2, s2⟩ := hb.ex
  refine ⟨_, pe_ifExp p0 p1 p2, fun F S H σ ρ h Q k => s0 F S H σ ρ h _ ?_⟩
  unfold mIfE at k
  cases q : mc ρ with
  | ok x ρ1 =>
    rw [q, bind_ok] at k
    intro S1 H1 e1 h1
    cases x with
    | true =>
      rw [if_pos rfl] at k ⊢
      exact s1 F S1 H1 σ ρ1 h1 Q (EOk.mono e1 k)
    | false =>
      rw [if_neg Bool.false_ne_true] at k ⊢
      exact s2 F S1 H1 σ ρ1 h1 Q (EOk.mono e1 k)
  | exc e ρ1 => rw [q] at k; exact k
  | bad => rw [q] at k; exact k
/-- a op b op c -/
def mChain (f g : D → D → Option Bool) (a b c : ME) : List D → RR Bool := fun ρ => (a ρ).bind fun x ρ1 => (b ρ1).bind fun y ρ2 => (RR.of (f x y) ρ2).bind fun k ρ3 => if k = true then (c ρ3).bind fun z ρ4 => RR.of (g y z) ρ4 else .ok false ρ3
def mChainV (f g : D → D → Option Bool) (a b c : ME) : ME := fun ρ => (mChain f g a b c ρ).bind fun x ρ1 => .ok (.bl x) ρ1
theorem se_chain {K : PySem.W.Frag} {t u : R2} {f g : D → D → Option Bool} {ta tb tc : TE} {a b c : ME} (hd : OpB K G t f) (hd2 : OpB K G u g) (s1 : SE K G E .d μ ta a) (s2 : SE K G E .d μ tb b) (s3 : SE K G E .d μ tc c) :
    ∀ F S H σ ρ, EnvOk K G F S H μ σ ρ → ∀ Q : VK, TOk K G E μ F S σ (fun b H' => Q (.bl b) H') (mChain f g a b c ρ) → tChain t u ta tb tc σ H Q := by
  intro F S H σ ρ h Q k
  refine s1 F S H σ ρ h _ ?_
  unfold mChain at k
  cases q : a ρ with
  | ok x ρ1 =>
    rw [q, bind_ok] at k
    intro v S1 H1 e1 h1
    refine s2 F S1 H1 σ ρ1 h1.tail _ ?_
    have k2 := TOk.mono e1 k
    cases q2 : b ρ1 with
    | ok y ρ2 =>
      rw [q2, bind_ok] at k2
      intro w S2 H2 e2 h2
      have k3 := TOk.mono e2 k2
      cases q3 : f x y with
      | none => rw [q3] at k3; exact k3.elim
      | some z =>
        rw [q3, of_some, bind_ok] at k3
        refine hd F S2 H2 μ σ ρ2 v w x y z h2.tail (h1.head.mono e2) h2.head q3 _ ⟨z, rfl, ?_⟩
        cases z with
        | false =>
          rw [if_neg Bool.false_ne_true] at k3 ⊢
          exact k3 S2 H2 (Evl.Ex.refl S2) h2.tail
        | true =>
          rw [if_pos rfl] at k3 ⊢
          refine s3 F S2 H2 σ ρ2 h2.tail _ ?_
          cases q4 : c ρ2 with
          | ok z ρ3 =>
            rw [q4, bind_ok] at k3
            intro u S3 H3 e3 h3
            cases q5 : g y z with
            | none => rw [q5] at k3; exact k3.elim
            | some l =>
              rw [q5] at k3
              exact hd2 F S3 H3 μ σ ρ3 w u y z l h3.tail (h2.head.mono e3) h3.head q5 Q (k3 S3 H3 e3 h3.tail)
          | exc e ρ3 => rw [q4] at k3; exact k3
          | bad => rw [q4] at k3; exact k3
    | exc e ρ2 => rw [q2] at k2; exact k2
    | bad => rw [q2] at k2; exact k2
  | exc e ρ1 => rw [q] at k; exact k
  | bad => rw [q] at k; exact k
theorem jt_chain {op op' : CmpOp} {t u : R2} {f g : D → D → Option Bool} {a b c : Expr} {ma mb mc : ME} {pos : Pos} (ho : OpR X (compareOp op) t) (ho' : OpR X (compareOp op') u) (hd : OpB X.K G t f) (hd2 : OpB X.K G u g)
    (ha : JE X G E .d μ a ma) (hb : JE X G E .d μ b mb) (hc : JE X G E .d μ c mc) (hm : lastMarks [op, op'] [b, c] = false := by with_unfolding_all rfl) : JT X G E μ (.Compare a [op, op'] [b, c] pos) (mChain f g ma mb mc) := by
  obtain ⟨t1, p1, s1⟩ := ha.ex
  obtain ⟨t2, p2, s2⟩ := hb.ex
  obtain ⟨t3, p3, s3⟩ := hc.ex
  refine ⟨_, pt_chain ho ho' p1 p2 p3 hm, fun F S H σ ρ h Q k => se_chain hd hd2 s1 s2 s3 F S H σ ρ h _ ?_⟩
  cases q : mChain f g ma mb mc ρ with
  | ok x ρ1 => rw [q] at k; exact fun S' H' e h' => ⟨x, rfl, k S' H' e h'⟩
  | exc e ρ1 => rw [q] at k; exact k
  | bad => rw [q] at k; exact k
theorem je_chain {op op' : CmpOp} {t u : R2} {f g : D → D → Option Bool} {a b c : Expr} {ma mb mc : ME} {pos : Pos} (ho : OpR X (compareOp op) t) (ho' : OpR X (compareOp op') u) (hd : OpB X.K G t f) (hd2 : OpB X.K G u g)
    (ha : JE X G E .d μ a ma) (hb : JE X G E .d μ b mb) (hc : JE X G E .d μ c mc) (hm : lastMarks [op, op'] [b, c] = false := by with_unfolding_all rfl) : JE X G E .d μ (.Compare a [op, op'] [b, c] pos) (mChainV f g ma mb mc) := by
  obtain ⟨t1, p1, s1⟩ := ha.ex
  obtain ⟨t2, p2, s2⟩ := hb.ex
  obtain ⟨t3, p3, s3⟩ := hc.ex
  refine ⟨_, pe_chain ho ho' p1 p2 p3 hm, fun F S H σ ρ h Q k => se_chain hd hd2 s1 s2 s3 F S H σ ρ h _ ?_⟩
  unfold mChainV at k
  cases q : mChain f g ma mb mc ρ with
  | ok x ρ1 => rw [q] at k; exact fun S' H' e h' => k _ S' H' e (h'.push (.bl x))
  | exc e ρ1 => rw [q] at k; exact k
  | bad => rw [q] at k; exact k

/-! ### arguments, displays -/
def mNil : MA := fun ρ => .ok [] ρ
def mCons (a : ME) (b : MA) : MA := fun ρ => (a ρ).bind fun x ρ1 => (b ρ1).bind fun xs ρ2 => .ok (x :: xs) ρ2
theorem ja_nil : JA X G E μ [] mNil := ⟨_, pa_nil, fun F S H σ ρ h Q k => k [] S H (Evl.Ex.refl S) h .nil⟩
theorem ja_cons {e : Expr} {es : List Expr} {a : ME} {b : MA} (ha : JE X G E .d μ e a) (hb : JA X G E μ es b) (hs : starEach (e :: es) X.env = (false, eval e X.env) :: starEach es X.env := by rfl) : JA X G E μ (e :: es) (mCons a b) := by
  obtain ⟨t1, p1, s1⟩ := ha.ex
  obtain ⟨t2, p2, s2⟩ := hb.ex
  refine ⟨_, pa_cons p1 p2 hs, fun F S H σ ρ h Q k => s1 F S H σ ρ h _ ?_⟩
  unfold mCons at k
  cases q : a ρ with
  | ok x ρ1 =>
    rw [q, bind_ok] at k
    intro v S1 H1 e1 h1
    refine s2 F S1 H1 σ ρ1 h1.tail _ ?_
    have k2 := AOk.mono e1 k
    cases q2 : b ρ1 with
    | ok xs ρ2 =>
      rw [q2, bind_ok] at k2
      exact fun vs S2 H2 e2 h2 q3 => k2 _ S2 H2 e2 h2 (.cons (h1.head.mono e2) q3)
    | exc e ρ2 => rw [q2] at k2; exact k2
    | bad => rw [q2] at k2; exact k2
  | exc e ρ1 => rw [q] at k; exact k
  | bad => rw [q] at k; exact k
def mTup (a : MA) : ME := fun ρ => (a ρ).bind fun ds ρ1 => if ds.length ≤ 1000 then .ok (.tup ds) ρ1 else .bad
def mLst (a : MA) : ME := fun ρ => (a ρ).bind fun ds ρ1 => if ds.length ≤ 1000 then .ok (.lst ds) ρ1 else .bad
theorem le_line {n : Nat} (h : n ≤ 1000) : n ≤ sizeLine := Nat.le_trans h (by decide)
theorem je_tup {es : List Expr} {a : MA} {k : Nat} {pos : Pos} (ha : JA X G E μ es a) : JE X G E .d μ (.Tuple es k pos) (mTup a) := by
  obtain ⟨t1, p1, s1⟩ := ha.ex
  refine ⟨_, pe_tup p1, fun F S H σ ρ h Q k => s1 F S H σ ρ h _ ?_⟩
  unfold mTup at k
  cases q : a ρ with
  | ok ds ρ1 =>
    rw [q, bind_ok] at k
    intro vs S1 H1 e1 h1 q1
    split at k
    · rename_i hl
      have := q1.length
      exact ⟨le_line (by omega), fun p hp => RVal.tup (K := X.K) (G := G) (F := F) (fun v S2 H2 e2 h2 => k v S2 H2 (e1.trans e2) h2) h1 q1 hp⟩
    · exact k.elim
  | exc e ρ1 => rw [q] at k; exact k
  | bad => rw [q] at k; exact k
theorem je_lstR {es : List Expr} {a : MA} {pos : Pos} (hr : r = .d ∨ r = .o) (ha : JA X G E μ es a) : JE X G E r μ (.List es pos) (mLst a) := by
  obtain ⟨t1, p1, s1⟩ := ha.ex
  refine ⟨_, pe_lst p1, fun F S H σ ρ h Q k => s1 F S H σ ρ h _ ?_⟩
  unfold mLst at k
  cases q : a ρ with
  | ok ds ρ1 =>
    rw [q, bind_ok] at k
    intro vs S1 H1 e1 h1 q1
    split at k
    · rename_i hl
      have := q1.length
      exact ⟨le_line (by omega), fun p hp => RVal.new (K := X.K) (G := G) (F := F) hr (fun v S2 H2 e2 h2 => k v S2 H2 (e1.trans e2) h2) h1 q1 hp⟩
    · exact k.elim
  | exc e ρ1 => rw [q] at k; exact k
  | bad => rw [q] at k; exact k
theorem je_lst {es : List Expr} {a : MA} {pos : Pos} (ha : JA X G E μ es a) : JE X G E .d μ (.List es pos) (mLst a) := je_lstR (.inl rfl) ha
theorem je_lstO {es : List Expr} {a : MA} {pos : Pos} (ha : JA X G E μ es a) : JE X G E .o μ (.List es pos) (mLst a) := je_lstR (.inr rfl) ha

/-! ### subscripts -/
def fIx : D → D → Option D
  | .lst ds, .int i => atI ds i
  | .tup ds, .int i => atI ds i
  | .scr ns, .int i => (atI ns i).map .int
  | .str s, .int i => if s.length ≤ sizeLine then (atI s.cps.toList i).map fun c => .str ⟨#[c]⟩ else none
  | _, _ => none
theorem datL_at {K : PySem.W.Frag} {S : Hp} {vs : List V} {ds : List D} {i : Int} {d : D} (h : DatL K G S vs ds) (e : atI ds i = some d) : ∃ v, atI vs i = some v ∧ Dat K G S v d := by
  unfold atI at e ⊢
  rw [h.length]
  cases q : ixN ds.length i with
  | none => rw [q] at e; cases e
  | some j =>
    rw [q] at e
    exact h.get e
theorem opd_ix {K : PySem.W.Frag} : OpD K G .d (rIx K) fIx := by
  intro F S H μ σ ρ x y dx dy z h q1 q2 e Q k
  unfold fIx at e
  split at e
  · cases q2
    cases q1 with
    | lst a1 a2 =>
      obtain ⟨v, e1, e2⟩ := datL_at a2 e
      exact .inl ⟨_, _, _, v, rfl, rfl, .inl (.inl (h.sh _ _ a1)), e1, k.dat (Evl.Ex.refl S) h e2⟩
  · cases q2
    cases q1 with
    | tup a1 a2 =>
      obtain ⟨v, e1, e2⟩ := datL_at a2 e
      exact .inr (.inl ⟨_, _, _, v, rfl, rfl, Evl.ex_t h.sh a1, e1, k.dat (Evl.Ex.refl S) h e2⟩)
  · cases q2
    cases q1 with
    | scr a1 =>
      rename_i ns i a
      cases q : atI ns i with
      | none => rw [q] at e; cases e
      | some n =>
        rw [q] at e
        cases e
        refine .inl ⟨_, _, _, .int n, rfl, rfl, Evl.ex_l h.sh a1, ?_, k.dat (Evl.Ex.refl S) h (.int n)⟩
        unfold atI at q ⊢
        rw [List.length_map]
        cases q3 : ixN ns.length i with
        | none => rw [q3] at q; cases q
        | some j =>
          rw [q3] at q
          have q' : ns[j]? = some n := q
          show (ns.map V.int)[j]? = _
          rw [List.getElem?_map, q']
          rfl
  · split at e
    · cases q2
      cases q1
      rename_i s i hs
      cases q : atI s.cps.toList i with
      | none => rw [q] at e; cases e
      | some c =>
        rw [q] at e
        cases e
        exact .inr (.inr ⟨_, _, c, rfl, rfl, hs, q, k.dat (Evl.Ex.refl S) h (.str _)⟩)
    · cases e
  · cases e
theorem je_ix {a b : Expr} {ma mb : ME} {pos : Pos} (ha : JE X G E .d μ a ma) (hb : JE X G E .d μ b mb) (hs : PlainIx b := by intro _ _; rfl) : JE X G E .d μ (.Subscript a b pos) (mOp fIx ma mb) := by
  obtain ⟨t1, p1, s1⟩ := ha.ex
  obtain ⟨t2, p2, s2⟩ := hb.ex
  exact ⟨_, pe_ix ix_seq p1 p2 hs, se_op opd_ix s1 s2⟩
/-- an item of an owned list -/
def mIxO (i : Nat) (b : ME) : ME := fun ρ => (b ρ).bind fun y ρ1 => RR.of (match ρ1.getD i .non with | .lst ds => fIx (.lst ds) y | _ => none) ρ1
theorem je_ixO {x : Str} {i : Nat} {b : Expr} {mb : ME} {pos p2 : Pos} (hb : JE X G E .d μ b mb) (e : μ[i]? = some .o := by rfl) (hN : X.N[i]? = some x := by rfl) (hs : PlainIx b := by intro _ _; rfl)
    (hv : Vis X.env.scope x := by first | exact Or.inl rfl | exact Or.inr (Or.inl rfl) | exact Or.inr (Or.inr rfl)) (hd : (x == ("__debug__" : Str)) = false := by decide) (hcd : (x == ("__classdict__" : Str)) = false := by decide) :
    JE X G E .d μ (.Subscript (.Name x p2) b pos) (mIxO i mb) := by
  obtain ⟨t2, p2, s2⟩ := hb.ex
  refine ⟨_, pe_ix ix_list (pe_var hN hv hd hcd) p2 hs, fun F S H σ ρ h Q k => ?_⟩
  obtain ⟨p, q1, q2⟩ := h.ovar e
  refine ⟨_, q1, s2 F S H σ ρ h _ ?_⟩
  unfold mIxO at k
  cases q : mb ρ with
  | ok y ρ1 =>
    rw [q, bind_ok] at k
    intro w S1 H1 e1 h1
    obtain ⟨p', q3, q4⟩ := h1.tail.ovar e
    rw [q1] at q3
    cases q3
    generalize ρ1.getD i .non = dg at q4 k
    cases q4 with
    | lst a1 a2 =>
      rename_i vs ds
      dsimp only at k
      cases q5 : fIx (.lst ds) y with
      | none => rw [q5] at k; exact k.elim
      | some z =>
        rw [q5] at k
        have hy := h1.head
        cases y with
        | int j =>
          cases hy
          obtain ⟨v, e7, e8⟩ := datL_at (own_flat a2 rfl) (show atI ds j = some z from q5)
          exact ⟨_, _, _, v, rfl, rfl, .inl (.inl a1), e7, k v S1 H1 e1 (h1.tail.push e8)⟩
        | _ => cases q5
    | dK _ _ _ => exact k.elim
    | dT _ _ _ => exact k.elim
    | ins _ _ _ => exact k.elim
  | exc e1 ρ1 => rw [q] at k; exact k
  | bad => rw [q] at k; exact k
end
end MR

set_option Elab.async false
set_option linter.all false
set_option maxRecDepth 100000
set_option maxHeartbeats 1000000
/-! MB5: calls of builtins and of defs, defs themselves, owned lists, targets, what is walked, raise. -/
namespace MR
open PySem L2 PyProof.Rows
section
variable {X : Cx} {G : Cl} {E : XS} {C : SC} {μ μ' μ1 : List Mode} {r : Mode}
variable {K : PySem.W.Frag} {F : Fo} {S H : Hp} {σ : L2.St} {ρ : List D}
/-- an owned object is changed -/
theorem EnvOk.chO {i : Nat} {p : Addr} {o : HO} {d : D} (h : EnvOk K G F S H μ σ ρ) (e : μ[i]? = some .o) (hp : σ[i]? = some (some (.ref p))) (q : Own K G S (upd H p o) p d [p]) : EnvOk K G F S (upd H p o) μ σ (ρ.set i d) := by
  obtain ⟨fp, ⟨f1, f2, f3⟩, f4, sl, th⟩ := h.fps
  obtain ⟨p', h1, h2, h3⟩ := sl i .o e
  rw [hp] at h1
  cases h1
  have hi : i < μ.length := (List.getElem?_eq_some_iff.mp e).1
  have mp : p ∈ fp i := by rw [h3]; exact List.mem_singleton.mpr rfl
  have hS : S p = none := (f1 i p mp).1
  have hF : F p = none := (f1 i p mp).2
  refine ⟨fun a u z => ?_, fun a u z => ⟨?_, (h.fk a u z).2⟩, h.ls, by simp [h.lr], fp, ⟨f1, f2, f3⟩, f4, fun j m e2 => ?_⟩
  · rw [upd_ne (ne_of_none z hS)]
    exact h.sh _ _ z
  · rw [upd_ne (ne_of_none z hF)]
    exact (h.fk a u z).1
  · by_cases hj : j = i
    · subst hj
      rw [e] at e2
      cases e2
      have : (ρ.set j d).getD j .non = d := by simp [List.getD, List.getElem?_set_self (show j < ρ.length by rw [h.lr]; exact hi)]
      rw [this]
      exact ⟨p, hp, by rw [h3]; exact q, h3⟩
    · have : (ρ.set i d).getD j .non = ρ.getD j .non := by simp [List.getD, List.getElem?_set_ne (Ne.symm hj)]
      rw [this]
      refine (sl j m e2).mono (Evl.Ex.refl S) fun a ha => upd_ne fun z => ?_
      subst z
      exact hj (f2 j i a ha mp)

def D.nat : D → Nat
  | .int i => i.natAbs
  | _ => 0

/-! ### builtins by name -/
def mCB (f : List D → Option D) (a : MA) : ME := fun ρ => (a ρ).bind fun ds ρ1 => RR.of (f ds) ρ1
theorem se_cb {t : List V → Hp → VK → Prop} {f : List D → Option D} {ta : TA} {a : MA} (hd : CallD K G r t f) (s1 : SA K G E μ ta a) : SE K G E r μ (tCB t ta) (mCB f a) := by
  intro F S H σ ρ h Q k
  refine s1 F S H σ ρ h _ ?_
  unfold mCB at k
  cases q : a ρ with
  | ok ds ρ1 =>
    rw [q, bind_ok] at k
    intro vs S1 H1 e1 h1 q1
    cases q2 : f ds with
    | none => rw [q2] at k; exact k.elim
    | some z =>
      rw [q2] at k
      exact hd F S1 H1 μ σ ρ1 vs ds z h1 q1 q2 Q fun v S2 H2 e2 h2 => k v S2 H2 (e1.trans e2) h2
  | exc e ρ1 => rw [q] at k; exact k
  | bad => rw [q] at k; exact k
theorem je_cb {id : String} {t : List V → Hp → VK → Prop} {f : List D → Option D} {x : Str} {e : Expr} {es : List Expr} {a : MA} {p pos : Pos} (hc : CallR X (.builtin id) t) (hd : CallD X.K G r t f) (hm : X.mg x = none) (ha : JA X G E μ (e :: es) a)
    (hg : Gl X x := by rfl) (hv : bootBuiltins x = some (.builtin id) := by decide +kernel) (hn : x ≠ "__name__" := by decide) (hdb : (x == ("__debug__" : Str)) = false := by decide) (he : starEach (e :: es) X.env = (false, eval e X.env) :: starEach es X.env := by rfl) (hpl : (backTo pos (starEach es X.env)).any (·.1) = false := by rfl) :
    JE X G E r μ (.Call (.Name x p) (e :: es) [] pos) (mCB f a) := by
  obtain ⟨t1, p1, s1⟩ := ha.ex
  exact ⟨_, pe_callB hc hg hm hv p1 hn hdb he hpl, se_cb hd s1⟩
theorem je_ct {T : String} {t : List V → Hp → VK → Prop} {f : List D → Option D} {x : Str} {e : Expr} {es : List Expr} {a : MA} {p pos : Pos} (hc : CallR X (.type T) t) (hd : CallD X.K G r t f) (hm : X.mg x = none) (ha : JA X G E μ (e :: es) a)
    (hg : Gl X x := by rfl) (hv : bootBuiltins x = some (.type T) := by decide +kernel) (hn : x ≠ "__name__" := by decide) (hdb : (x == ("__debug__" : Str)) = false := by decide) (he : starEach (e :: es) X.env = (false, eval e X.env) :: starEach es X.env := by rfl) (hpl : (backTo pos (starEach es X.env)).any (·.1) = false := by rfl) :
    JE X G E r μ (.Call (.Name x p) (e :: es) [] pos) (mCB f a) := by
  obtain ⟨t1, p1, s1⟩ := ha.ex
  exact ⟨_, pe_callTy hc hg hm hv p1 hn hdb he hpl, se_cb hd s1⟩
def fLen : List D → Option D
  | [.str s] => if s.length ≤ sizeLine then some (.int s.length) else none
  | [.lst ds] => some (.int ds.length)
  | [.tup ds] => some (.int ds.length)
  | [.scr ns] => some (.int ns.length)
  | _ => none
theorem cd_len : CallD K G .d (fun xs H Q => ∃ x n, xs = [x] ∧ LenV K x H n ∧ Q (.int n) H) fLen := by
  intro F S H μ σ ρ vs ds z h q e Q k
  match ds, q, e with
  | [.str s], .cons q1 .nil, e =>
    have e' : (if s.length ≤ sizeLine then some (D.int s.length) else none) = some z := e
    split at e'
    · cases e'
      cases q1
      exact ⟨_, _, rfl, ⟨by assumption, rfl⟩, k.dat (Evl.Ex.refl S) h (.int _)⟩
    · cases e'
  | [.lst ds], .cons q1 .nil, e =>
    cases e
    cases q1 with
    | lst a1 a2 => exact ⟨_, _, rfl, .inl ⟨_, .inl (.inl (h.sh _ _ a1)), rfl⟩, by rw [a2.length]; exact k.dat (Evl.Ex.refl S) h (.int _)⟩
  | [.tup ds], .cons q1 .nil, e =>
    cases e
    cases q1 with
    | tup a1 a2 => exact ⟨_, _, rfl, .inr ⟨_, Evl.ex_t h.sh a1, rfl⟩, by rw [a2.length]; exact k.dat (Evl.Ex.refl S) h (.int _)⟩
  | [.scr ns], .cons q1 .nil, e =>
    cases e
    cases q1 with
    | scr a1 => exact ⟨_, _, rfl, .inl ⟨_, Evl.ex_l h.sh a1, rfl⟩, by rw [List.length_map]; exact k.dat (Evl.Ex.refl S) h (.int _)⟩
def fAbs : List D → Option D
  | [.int i] => some (.int (if i < 0 then -i else i))
  | _ => none
theorem cd_abs : CallD K G .d (fun xs H Q => ∃ i, xs = [.int i] ∧ Q (.int (if i < 0 then -i else i)) H) fAbs := by
  intro F S H μ σ ρ vs ds z h q e Q k
  match ds, q, e with
  | [.int i], .cons q1 .nil, e =>
    cases e
    cases q1
    exact ⟨_, rfl, k.dat (Evl.Ex.refl S) h (.int _)⟩
def fIntOf : List D → Option D
  | [.int i] => some (.int i)
  | [.bl b] => some (.int (if b then 1 else 0))
  | [.str s] => if s.length ≤ 640 then (PySem.intText? s).map .int else none
  | _ => none
def rIntOf : List V → Hp → VK → Prop := fun xs H Q => ((∃ i, xs = [.int i] ∧ Q (.int i) H) ∨ ∃ k, xs = [.bl k] ∧ Q (.int (if k then 1 else 0)) H) ∨ ∃ a n, xs = [.str a] ∧ PySem.intText? a = some n ∧ a.length ≤ 640 ∧ Q (.int n) H
theorem callR_or {f : Value} {t u : List V → Hp → VK → Prop} (h : CallR X f t) (h' : CallR X f u) : CallR X f (fun xs H Q => t xs H Q ∨ u xs H Q) := by
  intro pins s σ H xs us Q I r q
  rcases q with q | q
  · exact h pins s σ H xs us Q I r q
  · exact h' pins s σ H xs us Q I r q
theorem call_intOf : CallR X (.type "int") rIntOf := callR_or call_int1 call_int_str
theorem cd_int : CallD K G .d rIntOf fIntOf := by
  intro F S H μ σ ρ vs ds z h q e Q k
  match ds, q, e with
  | [.int i], .cons q1 .nil, e =>
    cases e
    cases q1
    exact .inl (.inl ⟨_, rfl, k.dat (Evl.Ex.refl S) h (.int _)⟩)
  | [.bl i], .cons q1 .nil, e =>
    cases e
    cases q1
    exact .inl (.inr ⟨_, rfl, k.dat (Evl.Ex.refl S) h (.int _)⟩)
  | [.str s], .cons q1 .nil, e =>
    have e' : (if s.length ≤ 640 then (PySem.intText? s).map D.int else none) = some z := e
    split at e'
    · cases q2 : PySem.intText? s with
      | none => rw [q2] at e'; cases e'
      | some n =>
        rw [q2] at e'
        cases e'
        cases q1
        exact .inr ⟨_, _, rfl, q2, by assumption, k.dat (Evl.Ex.refl S) h (.int _)⟩
    · cases e'
def fListOf : List D → Option D
  | [.lst ds] => some (.lst ds)
  | [.tup ds] => some (.lst ds)
  | _ => none
theorem cd_list (hr : r = .d ∨ r = .o) : CallD K G r (fun xs H Q => ∃ p ys, xs = [.ref p] ∧ (SqL K H p ys ∨ SqT K H p ys) ∧ ∀ l, H l = none → Q (.ref l) (upd H l (.lst ys))) fListOf := by
  intro F S H μ σ ρ vs ds z h q e Q k
  match ds, q, e with
  | [.lst ds], .cons q1 .nil, e =>
    cases e
    cases q1 with
    | lst a1 a2 => exact ⟨_, _, rfl, .inl (.inl (.inl (h.sh _ _ a1))), fun l hl => k.new hr h a2 hl⟩
  | [.tup ds], .cons q1 .nil, e =>
    cases e
    cases q1 with
    | tup a1 a2 => exact ⟨_, _, rfl, .inr (Evl.ex_t h.sh a1), fun l hl => k.new hr h a2 hl⟩
def fTupOf : List D → Option D
  | [.lst ds] => some (.tup ds)
  | _ => none
theorem cd_tuple : CallD K G .d (fun xs H Q => ∃ p ys, xs = [.ref p] ∧ ((SqL K H p ys ∧ ∀ l, H l = none → Q (.ref l) (upd H l (.tup ys))) ∨ (SqT K H p ys ∧ Q (.ref p) H))) fTupOf := by
  intro F S H μ σ ρ vs ds z h q e Q k
  match ds, q, e with
  | [.lst ds], .cons q1 .nil, e =>
    cases e
    cases q1 with
    | lst a1 a2 => exact ⟨_, _, rfl, .inl ⟨.inl (.inl (h.sh _ _ a1)), fun l hl => k.tup h a2 hl⟩⟩
def fStrOf : List D → Option D
  | [.int i] => if i.natAbs.log2 < 1920 then some (.str (toString i)) else none
  | _ => none
theorem cd_str : CallD K G .d (fun xs H Q => ∃ i, xs = [.int i] ∧ i.natAbs.log2 < 1920 ∧ Q (.str (toString i)) H) fStrOf := by
  intro F S H μ σ ρ vs ds z h q e Q k
  match ds, q, e with
  | [.int i], .cons q1 .nil, e =>
    have e' : (if i.natAbs.log2 < 1920 then some (D.str (toString i)) else none) = some z := e
    split at e'
    · cases e'
      cases q1
      exact ⟨_, rfl, by assumption, k.dat (Evl.Ex.refl S) h (.str _)⟩
    · cases e'
/-- isinstance(x, T), T a builtin class -/
def tyName : D → Option String
  | .non => some "NoneType"
  | .bl _ => some "bool"
  | .int _ => some "int"
  | .str _ => some "str"
  | .lst _ => some "list"
  | .scr _ => some "list"
  | .tup _ => some "tuple"
  | .dK _ => some "dict"
  | .dT _ => some "dict"
  | .ins _ _ => none
def fIsi (T : String) (d : D) : Option D := match tyName d with
  | some n => (kitB n T).map .bl
  | none => none
theorem ty_ok (e : Ex S H) {v : V} {d : D} {n : String} (h : Dat K G S v d) (q : tyName d = some n) : TyX K H v (.type n) := by
  cases h with
  | non => cases q; exact .base .non
  | bl b => cases q; exact .base (.bl b)
  | int b => cases q; exact .base (.int b)
  | str b => cases q; exact .base (.str b)
  | lst h1 _ => cases q; exact .base (.lst (e _ _ h1))
  | tup h1 _ =>
    cases q
    rcases Evl.ex_t e h1 with (h2 | ⟨o, h2⟩) | ⟨o, its, m, h2, h3, _⟩
    · exact .base (.tup h2)
    · exact .fTuple h2
    · exact .kTuple h2 h3
  | scr h1 =>
    cases q
    rcases Evl.ex_l e h1 with (h2 | ⟨o, h2⟩) | ⟨o, its, m, h2, h3, _⟩
    · exact .base (.lst h2)
    · exact .base (.frz h2)
    · exact .kList h2 h3
  | dK h1 _ _ => cases q; exact .base (.dK (e _ _ h1))
  | dT h1 _ _ => cases q; exact .base (.dT (e _ _ h1))
  | ins _ _ _ => cases q
theorem je_isi {a : Expr} {ma : ME} {y x : Str} {T : String} {p p2 pos : Pos} (ha : JE X G E .d μ a ma) (hy : X.mg y = none) (hx : X.mg x = none) (hgy : Gl X y := by rfl) (hg : Gl X x := by rfl) (hvy : bootBuiltins y = some (.builtin "isinstance") := by decide +kernel) (hv : bootBuiltins x = some (.type T) := by decide +kernel)
    (hny : y ≠ "__name__" := by decide) (hdy : (y == ("__debug__" : Str)) = false := by decide) (hn : x ≠ "__name__" := by decide) (hdb : (x == ("__debug__" : Str)) = false := by decide)
    (h1 : starEach [a, .Name x p2] X.env = (false, eval a X.env) :: starEach [.Name x p2] X.env := by rfl) (h2 : starEach [.Name x p2] X.env = (false, eval (.Name x p2) X.env) :: starEach [] X.env := by rfl) (hpl : (backTo pos (starEach [.Name x p2] X.env)).any (·.1) = false := by rfl) :
    JE X G E .d μ (.Call (.Name y p) [a, .Name x p2] [] pos) (mUn (fIsi T) ma) := by
  obtain ⟨t1, p1, s1⟩ := ha.ex
  refine ⟨_, pe_callB call_isi hgy hy hvy (pa_cons p1 (pa_cons (pe_bltn (v := .ty T) hg hx hv rfl hn hdb) pa_nil h2) h1) hny hdy h1 hpl, fun F S H σ ρ h Q k => s1 F S H σ ρ h _ ?_⟩
  unfold mUn at k
  cases q : ma ρ with
  | ok x ρ1 =>
    rw [q, bind_ok] at k
    intro v S1 H1 e1 h1
    unfold fIsi at k
    cases q2 : tyName x with
    | none => rw [q2] at k; exact k.elim
    | some n =>
      rw [q2] at k
      dsimp only at k
      cases q3 : kitB n T with
      | none => rw [q3] at k; exact k.elim
      | some b =>
        rw [q3] at k
        exact ⟨_, _, _, _, b, rfl, .ty T, ty_ok h1.sh h1.head q2, kit_ty q3, k _ S1 H1 e1 (h1.tail.push (.bl b))⟩
  | exc e ρ1 => rw [q] at k; exact k
  | bad => rw [q] at k; exact k

/-! ### calls of defs -/
/-- the promise of a def whose arguments are data -/
def spP (K : PySem.W.Frag) (G : Cl) (n : Nat) (rm : Mode) (f : MP) : Sp := fun vs H Q E => ∃ (F : Fo) (S : Hp) (ds : List D), Ex S H ∧ (∀ a o, F a = some o → H a = some o ∧ S a = none) ∧ DatL K G S vs ds ∧ ds.length = n ∧
  match f ds with
  | .ok d => ∀ v S' H', Ex S S' → EnvOk K G F S' H' [rm] [some v] [d] → Q v H'
  | .exc e => ∀ c dct S' H', Ex S S' → EnvOk K G F S' H' [] [] [] → ErrAt G e c dct H' → E c dct H'
  | .bad => False
theorem spP_len {n : Nat} {rm : Mode} {f : MP} {vs : List V} {H : Hp} {Q : VK} {E : XK} (h : spP K G n rm f vs H Q E) : vs.length = n := by
  obtain ⟨F, S, ds, _, _, q, l, _⟩ := h
  rw [q.length, l]
def mCall (f : MP) (dd : List D) (a : MA) : ME := fun ρ => (a ρ).bind fun ds ρ1 => match f (ds ++ dd) with
  | .ok d => .ok d ρ1
  | .exc e => .exc e ρ1
  | .bad => .bad
theorem se_call {n : Nat} {f : MP} {dvs : List V} {dd : List D} {ta : TA} {a : MA} (hp : pinless r = true) (hn : ∀ ρ ds ρ1, a ρ = .ok ds ρ1 → (ds ++ dd).length = n) (hdd : ∀ S, DatL K G S dvs dd) (s1 : SA K G E μ ta a) : SE K G E r μ (tCallSD (spP K G n r f) dvs E ta) (mCall f dd a) := by
  intro F S H σ ρ h Q k
  refine s1 F S H σ ρ h _ ?_
  unfold mCall at k
  cases q : a ρ with
  | ok ds ρ1 =>
    rw [q, bind_ok] at k
    intro vs S1 H1 e1 h1 q1
    refine ⟨⟨rest H1 S1, fun _ => 0, rest_nt⟩, S1, ds ++ dd, h1.sh, fun _ _ z => rest_some z, q1.append (hdd S1), hn ρ ds ρ1 q, ?_⟩
    cases q2 : f (ds ++ dd) with
    | ok d =>
      rw [q2] at k
      exact fun v S2 H2 e2 h2 => k v S2 H2 (e1.trans e2) (h1.back e2 hp h2)
    | exc e =>
      rw [q2] at k
      exact fun c dct S2 H2 e2 h2 z => k c dct S2 H2 (e1.trans e2) (h1.back0 e2 h2) z
    | bad => rw [q2] at k; exact k
  | exc e ρ1 => rw [q] at k; exact k
  | bad => rw [q] at k; exact k
/-- how many arguments -/
def ALen (a : MA) (n : Nat) : Prop := ∀ ρ ds ρ1, a ρ = .ok ds ρ1 → ds.length = n
theorem alen_nil : ALen mNil 0 := fun ρ ds ρ1 h => by cases h; rfl
theorem alen_cons {a : ME} {b : MA} {n : Nat} (h : ALen b n) : ALen (mCons a b) (n + 1) := fun ρ ds ρ1 e => by
  unfold mCons at e
  cases q : a ρ with
  | ok x ρ2 =>
    rw [q, bind_ok] at e
    cases q2 : b ρ2 with
    | ok xs ρ3 =>
      rw [q2, bind_ok] at e
      cases e
      simp [h ρ2 xs _ q2]
    | exc _ _ => rw [q2] at e; cases e
    | bad => rw [q2] at e; cases e
  | exc _ _ => rw [q] at e; cases e
  | bad => rw [q] at e; cases e
/-- the facts that a call of a def wants -/
structure DefO (P : Program) (w : World) (K : PySem.W.Frag) (mg : Str → Option Value) (base : Heap) (G : Cl) (x : Str) (n : Nat) (rm : Mode) (f : MP) (k : Nat) (dd : List D) : Prop where
  ex : ∃ (a : Addr) (fd : FuncData) (ps : List Str) (ds : List Value) (dvs : List V), FnOk P w K mg base (L2.CX P w) k a fd ps (spP K G n rm f) ∧ mg x = some (.ref a) ∧ PySem.W.keepIn K (.ref a) = true ∧ Binds K fd ps ds ∧ Vals dvs ds ∧ ∀ S, DatL K G S dvs dd
theorem je_call {x : Str} {n k m : Nat} {f : MP} {dd : List D} {e : Expr} {es : List Expr} {a : MA} {p pos : Pos} (F : DefO X.prog X.w X.K X.mg X.base G x n r f k dd) (hr : Room k X.A) (tk : Takes X (fun c d σ H => E σ c d H)) (ha : JA X G E μ (e :: es) a) (hl : ALen a m) (hn : m + dd.length = n := by rfl) (hpr : pinless r = true := by rfl)
    (hg : Gl X x := by rfl) (hdb : (x == ("__debug__" : Str)) = false := by decide) (he : starEach (e :: es) X.env = (false, eval e X.env) :: starEach es X.env := by rfl) (hpl : (backTo pos (starEach es X.env)).any (·.1) = false := by rfl) :
    JE X G E r μ (.Call (.Name x p) (e :: es) [] pos) (mCall f dd a) := by
  obtain ⟨t1, p1, s1⟩ := ha.ex
  obtain ⟨A, fd, ps, ds, dvs, h1, h2, h3, h4, h5, h6⟩ := F.ex
  exact ⟨_, pe_callSD h1 hr hg h2 h3 h4 h5 (fun σ => passAt tk σ) p1 hdb he hpl, se_call hpr (fun ρ ds ρ1 q => by rw [List.length_append, hl ρ ds ρ1 q, hn]) h6 s1⟩

/-! ### a def by its body -/
def mDef (rm : Mode) (k : Nat) (b : MS) : MP := fun ds => match b (ds ++ List.replicate k .non) with
  | .ret d _ => .ok d
  | .nx _ => match rm with
    | .d => .ok .non
    | _ => .bad
  | .exc e _ => .exc e
  | _ => .bad
theorem modesLe_x : ∀ (μ : List Mode), ModesLe (List.replicate μ.length .x) μ = true
  | [] => rfl
  | m :: μ => by
    rw [List.length_cons, List.replicate_succ]
    simp [ModesLe, modesLe_x μ, ModeLe]
/-- an environment's head alone -/
theorem EnvOk.alone {s : Option V} {d : D} (h : EnvOk K G F S H (r :: μ) (s :: σ) (d :: ρ)) : EnvOk K G F S H [r] [s] [d] := by
  obtain ⟨sh, fk, ls, lr, fp, ⟨f1, f2, f3⟩, f4, sl⟩ := h
  refine ⟨sh, fk, rfl, rfl, fun i => match i with | 0 => fp 0 | _ + 1 => [], ⟨?_, ?_, ?_⟩, ?_, ?_⟩
  · intro i a ha
    cases i with
    | zero => exact f1 0 a ha
    | succ i => cases ha
  · intro i j a ha hb
    cases i with
    | zero =>
      cases j with
      | zero => rfl
      | succ j => cases hb
    | succ i => cases ha
  · intro i
    cases i with
    | zero => exact f3 0
    | succ i => exact List.nodup_nil
  · intro i hi
    cases i with
    | zero => simp at hi
    | succ i => rfl
  · intro i m e
    cases i with
    | zero =>
      have z := sl 0 m (by simpa using e)
      simpa using z
    | succ i => simp at e
theorem EnvOk.nothing (h : EnvOk K G F S H μ σ ρ) : EnvOk K G F S H [] [] [] :=
  ⟨h.sh, h.fk, rfl, rfl, fun _ => [], ⟨fun _ _ z => (by cases z), fun _ _ _ z => (by cases z), fun _ => List.nodup_nil⟩, fun _ _ => rfl, fun i m e => by simp at e⟩
/-- what a body of a def is held to -/
def scOf (E : XK) (rm : Mode) (n k : Nat) : SC := ⟨fun _ => E, rm, List.replicate (n + k) .x, List.replicate (n + k) .x, List.replicate (n + k) .x⟩
theorem nonOk (h : EnvOk K G F S H μ σ ρ) (hr : r = .d) : EnvOk K G F S H [r] [some V.non] [D.non] := by
  subst hr
  exact (h.nothing).push .non
section
variable {P : Program} {w : World} {mg : Str → Option Value} {base : Heap}
/-- THE RULE for a def -/
theorem fn_ok {x qual : Str} {st : Stmt} {f : Addr} {fd : FuncData} {N ps : List Str} {lv n k : Nat} {rm : Mode} {b : MS} {μe : List Mode} (F : Fun K x qual st f fd) (sc : FnScope N ps (defScope st)) (hn : ps.length = n) (hk : N.length = n + k)
    (hb : ∀ (cdv : Value) (A : Around) (outer : List Env) (s : Shared) (H : Hp) (E : XK), Room lv (A.deeper (envOfC qual (defScope st) s.heap.objs.size f cdv)) →
      JSs (cxOf (L2.CX P w) P w K mg base N qual (defScope st) f cdv A outer s H E) G (scOf E rm n k) (List.replicate n .d ++ List.replicate k .x) μe (defBody st) b) :
    FnOk P w K mg base (L2.CX P w) (lv + 1) f fd ps (spP K G n rm (mDef rm k b)) := by
  refine F.okX sc (fun vs H Q E h => by rw [spP_len h, hn]) fun cdv A outer s H vs Q E hr h => ?_
  obtain ⟨t, p1, s1⟩ := (hb cdv A outer s H E hr).ex
  obtain ⟨F0, S, ds, sh, fk, q, l, z⟩ := h
  have hv : vs.length = n := by rw [q.length, l]
  refine ⟨t, p1, ?_⟩
  have e0 : L2.start N vs = vs.map some ++ List.replicate k none := by
    unfold L2.start
    rw [show N.length - vs.length = k by omega]
  rw [e0]
  have en := EnvOk.args (G := G) sh fk q k
  rw [l] at en
  refine s1 F0 S H _ _ en _ ?_
  unfold mDef at z
  cases q2 : b (ds ++ List.replicate k .non) with
  | nx ρ' =>
    rw [q2] at z
    cases rm with
    | d => exact fun σ' S' H' e' h' => z _ S' H' e' (nonOk h' rfl)
    | _ => exact z.elim
  | ret d ρ' =>
    rw [q2] at z
    exact fun v μ1 σ' S' H' _ e' h' => z v S' H' e' h'.alone
  | exc e ρ' =>
    rw [q2] at z
    exact fun μ1 σ' c dct S' H' _ e' h' z' => z c dct S' H' e' h'.nothing z'
  | brk ρ' => rw [q2] at z; exact z.elim
  | cnt ρ' => rw [q2] at z; exact z.elim
  | bad => rw [q2] at z; exact z.elim
end
/-- in a def's body: what is raised is handed out; the loops' own -/
theorem tk_of {P : Program} {w : World} {mg : Str → Option Value} {base : Heap} {N : List Str} {qual : Str} {scope : Scope} {f : Addr} {cd : Value} {A : Around} {outer : List Env} {s : Shared} {H : Hp} {E : XK} :
    Takes (cxOf (L2.CX P w) P w K mg base N qual scope f cd A outer s H E) (fun c d _ H => E c d H) := takes_of rfl rfl rfl rfl
theorem po_of {P : Program} {w : World} {mg : Str → Option Value} {base : Heap} {N : List Str} {qual : Str} {scope : Scope} {f : Addr} {cd : Value} {A : Around} {outer : List Env} {s : Shared} {H : Hp} {E : XK} :
    PassesOwn (model (cxOf (L2.CX P w) P w K mg base N qual scope f cd A outer s H E).prog (cxOf (L2.CX P w) P w K mg base N qual scope f cd A outer s H E).w) (cxOf (L2.CX P w) P w K mg base N qual scope f cd A outer s H E).A (cxOf (L2.CX P w) P w K mg base N qual scope f cd A outer s H E).env (cxOf (L2.CX P w) P w K mg base N qual scope f cd A outer s H E).xe := passes_of rfl

/-! ### raise -/
/-- a module's constant -/
structure GlobD (K : PySem.W.Frag) (mg : Str → Option Value) (G : Cl) (x : Str) (d : D) : Prop where
  ex : ∃ v u, mg x = some u ∧ RelV v u ∧ ∀ S, Dat K G S v d
theorem je_globD {x : Str} {d : D} {pos : Pos} (q : GlobD X.K X.mg G x d) (hg : Gl X x := by rfl) (hd : (x == ("__debug__" : Str)) = false := by decide) : JE X G E .d μ (.Name x pos) (mC d) := by
  obtain ⟨v, u, h1, h2, h3⟩ := q.ex
  exact je_glob hg h1 h2 h3 hd
/-- an own class of exceptions without __init__ -/
structure ExcO (K : PySem.W.Frag) (mg : Str → Option Value) (G : Cl) (x : Str) (e : Err) : Prop where
  ex : ∃ C, mg x = some (.ref C) ∧ G.eA e.tag = C ∧ PySem.W.excIn K C [.type "ValueError", .type "Exception", .type "BaseException", .type "object"] "ValueError.__new__" = true ∧ PySem.W.keepIn K (.ref C) = true ∧
    PySem.W.subIn K (.ref C) (.type "BaseException") = some true ∧ PySem.W.typeIn K (.ref C) = some (.type "type")
  nl : ∀ n, e ≠ .line n
def mRaise (e : Err) (a : MA) : MS := fun ρ => match a ρ with
  | .ok _ ρ1 => .exc e ρ1
  | .exc e ρ1 => .exc e ρ1
  | .bad => .bad
theorem js_raise {x : Str} {er : Err} {e : Expr} {es : List Expr} {a : MA} {m : Nat} {p pos pos' : Pos} (Q : ExcO X.K X.mg G x er) (tk : Takes X (fun c d σ H => C.E σ c d H)) (ha : JA X G C.E μ (e :: es) a) (hl : ALen a m) (w : ModesLe C.μx μ = true := by rfl) (hm : m ≤ 1000 := by decide)
    (hc : X.calm = true := by rfl) (hg : Gl X x := by rfl) (hdb : (x == ("__debug__" : Str)) = false := by decide) (he : starEach (e :: es) X.env = (false, eval e X.env) :: starEach es X.env := by rfl) (hpl : (backTo pos (starEach es X.env)).any (·.1) = false := by rfl) :
    JS X G C μ μ' (.Raise (some (.Call (.Name x p) (e :: es) [] pos)) none pos') (mRaise er a) := by
  obtain ⟨t1, p1, s1⟩ := ha.ex
  obtain ⟨A, g, rfl, q, kC, b, t⟩ := Q.ex
  refine ⟨_, ps_raise hc tk (pmk_ownA PySem.F.excBase_ValueError q g kC (raises_own b t) hg p1 hdb he hpl), fun F S H σ ρ h D k => s1 F S H σ ρ h _ ?_⟩
  unfold mRaise at k
  cases q : a ρ with
  | ok ds ρ1 =>
    rw [q] at k
    intro vs S1 H1 e1 h1 q1
    refine ⟨le_line (by rw [q1.length, hl ρ ds ρ1 q]; exact hm), k μ σ _ none S1 H1 w e1 h1 ⟨rfl, ?_⟩⟩
    cases er with
    | line n => exact absurd rfl (Q.nl n)
    | _ => rfl
  | exc e ρ1 => rw [q] at k; exact xout w k
  | bad => rw [q] at k; exact k

/-! ### owned lists -/
def mLenO (i : Nat) : ME := fun ρ => match ρ.getD i .non with
  | .lst ds => .ok (.int ds.length) ρ
  | _ => .bad
theorem je_lenO {x y : Str} {i : Nat} {p p2 pos : Pos} (hm : X.mg y = none) (e : μ[i]? = some .o := by rfl) (hg : Gl X y := by rfl) (hv : bootBuiltins y = some (.builtin "len") := by decide +kernel) (hn : y ≠ "__name__" := by decide) (hdy : (y == ("__debug__" : Str)) = false := by decide)
    (hN : X.N[i]? = some x := by rfl) (hx : Vis X.env.scope x := by first | exact Or.inl rfl | exact Or.inr (Or.inl rfl) | exact Or.inr (Or.inr rfl)) (hd : (x == ("__debug__" : Str)) = false := by decide) (hcd : (x == ("__classdict__" : Str)) = false := by decide)
    (he : starEach [.Name x p2] X.env = (false, eval (.Name x p2) X.env) :: starEach [] X.env := by rfl) (hpl : (backTo pos (starEach [] X.env)).any (·.1) = false := by rfl) :
    JE X G E .d μ (.Call (.Name y p) [.Name x p2] [] pos) (mLenO i) := by
  refine ⟨_, pe_callB call_len_seq hg hm hv (pa_cons (pe_var hN hx hd hcd) pa_nil he) hn hdy he hpl, fun F S H σ ρ h Q k => ?_⟩
  obtain ⟨p, q1, q2⟩ := h.ovar e
  unfold mLenO at k
  generalize ρ.getD i .non = dg at q2 k
  refine ⟨_, q1, ?_⟩
  cases q2 with
  | lst a1 a2 => exact ⟨p, _, rfl, .inl (.inl (.inl a1)), by rw [a2.length]; exact k _ S H (Evl.Ex.refl S) (h.push (.int _))⟩
  | dK _ _ _ => exact k.elim
  | dT _ _ _ => exact k.elim
  | ins _ _ _ => exact k.elim
/-- an owned list in slot i -/
def lstAt (i : Nat) (ρ : List D) : Option (List D) := match ρ.getD i .non with
  | .lst ds => some ds
  | _ => none
theorem lstAt_some {i : Nat} {ρ : List D} {ds : List D} (h : lstAt i ρ = some ds) : ρ.getD i .non = .lst ds := by
  unfold lstAt at h
  split at h
  · cases h
    assumption
  · cases h
theorem EnvOk.olst {i : Nat} {p : Addr} {ds : List D} (h : EnvOk K G F S H μ σ ρ) (e : μ[i]? = some .o) (hp : σ[i]? = some (some (.ref p))) (hd : lstAt i ρ = some ds) : ∃ vs, H p = some (.lst vs) ∧ DatL K G S vs ds := by
  obtain ⟨p', q3, q4⟩ := h.ovar e
  rw [hp] at q3
  cases q3
  rw [lstAt_some hd] at q4
  cases q4 with
  | lst a1 a2 => exact ⟨_, a1, own_flat a2 rfl⟩
/-- x.append(e) -/
def mApp (i : Nat) (a : ME) : MS := fun ρ => match lstAt i ρ with
  | none => .bad
  | some _ => match a ρ with
    | .ok d ρ1 => match lstAt i ρ1 with
      | some ds => if ds.length < 1000000 then .nx (ρ1.set i (.lst (ds ++ [d]))) else .bad
      | none => .bad
    | .exc e ρ1 => .exc e ρ1
    | .bad => .bad
theorem lt_line {n : Nat} (h : n < 1000000) : n < sizeLine := Nat.lt_of_lt_of_le h (by decide)
theorem js_app {x : Str} {i : Nat} {a : Expr} {ma : ME} {p p2 p3 pos : Pos} (ha : JE X G C.E .d μ a ma) (e : μ[i]? = some .o := by rfl) (w : ModesLe C.μx μ = true := by rfl)
    (hN : X.N[i]? = some x := by rfl) (hx : Vis X.env.scope x := by first | exact Or.inl rfl | exact Or.inr (Or.inl rfl) | exact Or.inr (Or.inr rfl)) (hd : (x == ("__debug__" : Str)) = false := by decide) (hcd : (x == ("__classdict__" : Str)) = false := by decide)
    (hbase : attributeBase (.Name x p) "append" X.env (eval (.Name x p) X.env) = eval (.Name x p) X.env := by rfl)
    (hfew : ((backTo p3 (starEach [a] X.env)).all (fun x => !x.1) && (backToKw p3 (keywordEach [] X.env)).all (fun x => x.1.isSome)
      && decide (([a] : List Expr).length + ([] : List Keyword).length + (if ([] : List Keyword).isEmpty then 0 else 1) < 30)) = true := by rfl)
    (hline : (p2.endLine == p3.line) = true := by rfl)
    (he : starEach [a] X.env = (false, eval a X.env) :: starEach [] X.env := by rfl) (hpl : (backTo p3 (starEach [] X.env)).any (·.1) = false := by rfl)
    (hs : swapsWith (.Call (.Attribute (.Name x p) "append" p2) [a] [] p3) none pos.line X.env = pure false := by rfl) :
    JS X G C μ μ (.Expr (.Call (.Attribute (.Name x p) "append" p2) [a] [] p3) pos) (mApp i ma) := by
  obtain ⟨t1, p1, s1⟩ := ha.ex
  refine ⟨_, ps_expr (pe_bm PySem.F.plainAttrs_list PySem.F.slot_list_append PySem.F.type_list_append mt_append (pe_var hN hx hd hcd) (pa_cons p1 pa_nil he) hbase hfew hline he hpl) hs, fun F S H σ ρ h D k => ?_⟩
  obtain ⟨p, q1, q2⟩ := h.ovar e
  unfold mApp at k
  cases z : lstAt i ρ with
  | none => rw [z] at k; exact k.elim
  | some ds0 =>
    rw [z] at k
    dsimp only at k
    obtain ⟨vs0, z1, _⟩ := h.olst e q1 z
    refine ⟨_, q1, .inl ⟨rfl, vs0, .inl (.inl z1)⟩, s1 F S H σ ρ h _ ?_⟩
    cases q : ma ρ with
    | ok d ρ1 =>
      rw [q] at k
      intro v S1 H1 e1 h1
      dsimp only at k
      cases z2 : lstAt i ρ1 with
      | none => rw [z2] at k; exact k.elim
      | some ds =>
        rw [z2] at k
        dsimp only at k
        obtain ⟨vs, z3, z4⟩ := h1.tail.olst e q1 z2
        split at k
        · rename_i hl
          refine ⟨p, vs, v, rfl, rfl, z3, lt_line (by rw [z4.length]; exact hl), ?_⟩
          exact k σ S1 _ e1 (h1.tail.chO e q1 (.lst upd_same (OwnL.snoc h1.head z4.ownL)))
        · exact k.elim
    | exc e1 ρ1 => rw [q] at k; exact xout w k
    | bad => rw [q] at k; exact k
/-! ### targets -/
def bName (i : Nat) : MB := fun d ρ => some (ρ.set i d)
theorem jg_name {i : Nat} {x : Str} {pos : Pos} (hN : X.N.Nodup) (hi : X.N[i]? = some x := by rfl) (hx : Loc X.env.scope x := by first | exact Or.inl rfl | exact Or.inr rfl) (hlt : i < μ.length := by decide) (hf : X.fn x = true ∨ X.env.scope.names.lookup x = some .local := by first | exact .inl rfl | exact .inr rfl) :
    JG X G μ (μ.set i .d) (.Name x pos) (bName i) := ⟨_, pg_name hN hi hx hf, fun F S H σ ρ v d ρ' h q e Q k => by
  cases e
  exact k _ S H (Evl.Ex.refl S) ((h.push q).store hlt)⟩
def bNil : List D → List D → Option (List D) := fun ds ρ => match ds with
  | [] => some ρ
  | _ => none
def bCons (a : MB) (b : List D → List D → Option (List D)) : List D → List D → Option (List D) := fun ds ρ => match ds with
  | d :: ds => match a d ρ with
    | some ρ1 => b ds ρ1
    | none => none
  | [] => none
theorem jgs_nil : JGs X G μ μ [] bNil := ⟨_, pgs_nil, fun F S H σ ρ vs ds ρ' h q e Q k => by
  unfold bNil at e
  split at e
  · cases e
    cases q
    exact ⟨rfl, k σ S H (Evl.Ex.refl S) h⟩
  · cases e⟩
theorem jgs_cons {e : Expr} {es : List Expr} {a : MB} {b : List D → List D → Option (List D)} (h1 : JG X G μ μ1 e a) (h2 : JGs X G μ1 μ' es b)
    (hs : (assignEach (e :: es) X.env).map (·.2) = assign e X.env :: (assignEach es X.env).map (·.2) := by rfl) : JGs X G μ μ' (e :: es) (bCons a b) := by
  obtain ⟨t1, p1, s1⟩ := h1.ex
  obtain ⟨t2, p2, s2⟩ := h2.ex
  refine ⟨_, pgs_cons p1 p2 hs, fun F S H σ ρ vs ds ρ' h q e Q k => ?_⟩
  unfold bCons at e
  cases q with
  | nil => cases e
  | @cons v d vs ds q1 q2 =>
    dsimp only at e
    cases z : a d ρ with
    | none => rw [z] at e; cases e
    | some ρ1 =>
      rw [z] at e
      exact ⟨_, _, rfl, s1 F S H σ ρ _ _ ρ1 h q1 z _ fun σ1 S1 H1 e1 h1 => s2 F S1 H1 σ1 ρ1 _ _ ρ' h1 (q2.mono e1) e Q fun σ2 S2 H2 e2 h2 => k σ2 S2 H2 (e1.trans e2) h2⟩
def bTup (n : Nat) (b : List D → List D → Option (List D)) : MB := fun d ρ => match d with
  | .tup ds => if ds.length = n then b ds ρ else none
  | _ => none
theorem jg_tup {es : List Expr} {k n : Nat} {pos : Pos} {b : List D → List D → Option (List D)} (h : JGs X G μ μ' es b) (hc : X.calm = true := by rfl) (hn : (assignEach es X.env).length = n := by rfl) (hst : (assignEach es X.env).findIdx? (·.1) = none := by rfl) :
    JG X G μ μ' (.Tuple es k pos) (bTup n b) := by
  obtain ⟨t1, p1, s1⟩ := h.ex
  refine ⟨_, pg_tup hc p1 hn hst, fun F S H σ ρ v d ρ' h q e Q k => ?_⟩
  unfold bTup at e
  split at e
  · split at e
    · rename_i hl
      cases q with
      | tup a1 a2 => exact ⟨_, _, rfl, Evl.ex_t h.sh a1, by rw [a2.length, hl], s1 F S H σ ρ _ _ ρ' h a2 e Q k⟩
    · cases e
  · cases e
/-- target = e -/
def mAsgT (b : MB) (a : ME) : MS := fun ρ => match a ρ with
  | .ok d ρ1 => match b d ρ1 with
    | some ρ2 => .nx ρ2
    | none => .bad
  | .exc e ρ1 => .exc e ρ1
  | .bad => .bad
theorem js_asgT {tg e : Expr} {a : ME} {b : MB} {pos : Pos} (he : JE X G C.E .d μ e a) (hg : JG X G μ μ' tg b) (w : ModesLe C.μx μ = true := by rfl) (hs : swapsWithSole [tg] e pos.line X.env = pure false := by rfl) (hw : swappedStores [tg] e X.env = pure none := by rfl)
    (h1 : (assignEach [tg] X.env).map (·.2) = [assign tg X.env] := by rfl) : JS X G C μ μ' (.Assign [tg] e pos) (mAsgT b a) := by
  obtain ⟨t1, p1, s1⟩ := he.ex
  obtain ⟨t2, p2, s2⟩ := hg.ex
  refine ⟨_, ps_asg p1 p2 hs hw h1, fun F S H σ ρ h D k => s1 F S H σ ρ h _ ?_⟩
  unfold mAsgT at k
  cases q : a ρ with
  | ok d ρ1 =>
    rw [q] at k
    intro v S1 H1 e1 h1
    dsimp only at k
    cases z : b d ρ1 with
    | none => rw [z] at k; exact k.elim
    | some ρ2 =>
      rw [z] at k
      exact s2 F S1 H1 σ ρ1 v d ρ2 h1.tail h1.head z _ fun σ2 S2 H2 e2 h2 => k σ2 S2 H2 (e1.trans e2) h2
  | exc e1 ρ1 => rw [q] at k; exact xout w k
  | bad => rw [q] at k; exact k
/-- x, y = a, b with plain local names -/
def mPar (i j : Nat) (a b : ME) : MS := fun ρ => match a ρ with
  | .ok d ρ1 => match b ρ1 with
    | .ok d2 ρ2 => .nx ((ρ2.set i d).set j d2)
    | .exc e ρ1 => .exc e ρ1
    | .bad => .bad
  | .exc e ρ1 => .exc e ρ1
  | .bad => .bad
theorem js_par {i j : Nat} {x y : Str} {a b : Expr} {ma mb : ME} {px py pt pos : Pos} {kt k2 pt2} (hN : X.N.Nodup) (ha : JE X G C.E .d μ a ma) (hb : JE X G C.E .d μ b mb) (hi : X.N[i]? = some x := by rfl) (hj : X.N[j]? = some y := by rfl) (hij : i ≠ j := by decide)
    (hx : X.env.scope.names.lookup x = some .local := by rfl) (hy : X.env.scope.names.lookup y = some .local := by rfl) (hli : i < μ.length := by decide) (hlj : j < μ.length := by decide) (w : ModesLe C.μx μ = true := by rfl) (hc : X.calm = true := by rfl)
    (h1 : starEach [a, b] X.env = (false, eval a X.env) :: starEach [b] X.env := by rfl) (h2 : starEach [b] X.env = (false, eval b X.env) :: starEach [] X.env := by rfl)
    (hw : swappedStores [.Tuple [.Name x px, .Name y py] kt pt] (.Tuple [a, b] k2 pt2) X.env = pure (some [x, y]) := by rfl)
    (hs : swapsWithSole [.Tuple [.Name x px, .Name y py] kt pt] (.Tuple [a, b] k2 pt2) pos.line X.env = pure false := by rfl) :
    JS X G C μ ((μ.set i .d).set j .d) (.Assign [.Tuple [.Name x px, .Name y py] kt pt] (.Tuple [a, b] k2 pt2) pos) (mPar i j ma mb) := by
  obtain ⟨t1, p1, s1⟩ := ha.ex
  obtain ⟨t2, p2, s2⟩ := hb.ex
  refine ⟨_, ps_par hc hN hi hj hij hx hy (pa_cons p1 (pa_cons p2 pa_nil h2) h1) hw hs, fun F S H σ ρ h D k => s1 F S H σ ρ h _ ?_⟩
  unfold mPar at k
  cases q : ma ρ with
  | ok d ρ1 =>
    rw [q] at k
    intro v S1 H1 e1 h1
    refine s2 F S1 H1 σ ρ1 h1.tail _ ?_
    dsimp only at k
    have k1 := OutOk.mono e1 k
    cases q2 : mb ρ1 with
    | ok d2 ρ2 =>
      rw [q2] at k1
      intro v2 S2 H2 e2 h2
      refine ⟨v, v2, rfl, k1 _ S2 H2 e2 ?_⟩
      have h3 := (h2.tail.push (h1.head.mono e2)).store hli
      have h4 : EnvOk X.K G F S2 H2 (.d :: μ.set i .d) (some v2 :: σ.set i (some v)) (d2 :: ρ2.set i d) := h3.push h2.head
      exact h4.store (by simpa using hlj)
    | exc e2 ρ2 => rw [q2] at k1; exact xout w k1
    | bad => rw [q2] at k1; exact k1
  | exc e1 ρ1 => rw [q] at k; exact xout w k
  | bad => rw [q] at k; exact k

/-! ### what is walked -/
def itemsOf : D → Option (List D)
  | .lst ds => some ds
  | .scr ns => some (ns.map .int)
  | _ => none
def mItL (a : ME) : MA := fun ρ => (a ρ).bind fun d ρ1 => RR.of (itemsOf d) ρ1
theorem it_list {a : Addr} {vs : List V} {ds : List D} (h1 : SqL K S a vs) (h2 : DatL K G S vs ds) : ItOk K G F S (Itl K a) ds := by
  have w := walk_list (K := K) (a := a) (xs := vs)
  refine ⟨fun i H hi e _ => w.goes i H (by rw [h2.length]; exact hi) (Evl.ex_l e h1), fun H e _ => by rw [← h2.length]; exact w.stops H (Evl.ex_l e h1), fun i H x H' d hd e _ y => .inl ?_⟩
  have hi : i < ds.length := (List.getElem?_eq_some_iff.mp hd).1
  obtain ⟨y1, y2⟩ := w.yields i H x H' (by rw [h2.length]; exact hi) (Evl.ex_l e h1) y
  obtain ⟨v, e1, e2⟩ := h2.get hd
  rw [y2] at e1
  cases e1
  exact ⟨y1, e2⟩
theorem it_tup {a : Addr} {vs : List V} {ds : List D} (h1 : SqT K S a vs) (h2 : DatL K G S vs ds) : ItOk K G F S (Itt K a) ds := by
  have w := walk_tup (K := K) (a := a) (xs := vs)
  refine ⟨fun i H hi e _ => w.goes i H (by rw [h2.length]; exact hi) (Evl.ex_t e h1), fun H e _ => by rw [← h2.length]; exact w.stops H (Evl.ex_t e h1), fun i H x H' d hd e _ y => .inl ?_⟩
  have hi : i < ds.length := (List.getElem?_eq_some_iff.mp hd).1
  obtain ⟨y1, y2⟩ := w.yields i H x H' (by rw [h2.length]; exact hi) (Evl.ex_t e h1) y
  obtain ⟨v, e1, e2⟩ := h2.get hd
  rw [y2] at e1
  cases e1
  exact ⟨y1, e2⟩
theorem datL_ints : ∀ ns : List Int, DatL K G S (ns.map V.int) (ns.map D.int)
  | [] => .nil
  | n :: ns => .cons (.int n) (datL_ints ns)
theorem ji_list {tg e : Expr} {a : ME} (he : JE X G E .d μ e a) : JI X G E μ tg e (mItL a) := by
  obtain ⟨t1, p1, s1⟩ := he.ex
  refine ⟨_, pi_list p1, fun F S H σ ρ h R k => s1 F S H σ ρ h _ ?_⟩
  unfold mItL at k
  cases q : a ρ with
  | ok d ρ1 =>
    rw [q, bind_ok] at k
    intro v S1 H1 e1 h1
    have hd := h1.head
    cases hd with
    | lst a1 a2 => exact ⟨_, rfl, ⟨_, .inl (.inl (h1.sh _ _ a1))⟩, k _ S1 H1 e1 h1.tail (it_list (.inl (.inl a1)) a2)⟩
    | scr a1 => exact ⟨_, rfl, ⟨_, Evl.ex_l h1.sh a1⟩, k _ S1 H1 e1 h1.tail (it_list a1 (datL_ints _))⟩
    | _ => exact k.elim
  | exc e1 ρ1 => rw [q] at k; exact k
  | bad => rw [q] at k; exact k
def mItT (a : ME) : MA := fun ρ => (a ρ).bind fun d ρ1 => RR.of (match d with | .tup ds => some ds | _ => none) ρ1
theorem ji_tup {tg e : Expr} {a : ME} (he : JE X G E .d μ e a) : JI X G E μ tg e (mItT a) := by
  obtain ⟨t1, p1, s1⟩ := he.ex
  refine ⟨_, pi_tup p1, fun F S H σ ρ h R k => s1 F S H σ ρ h _ ?_⟩
  unfold mItT at k
  cases q : a ρ with
  | ok d ρ1 =>
    rw [q, bind_ok] at k
    intro v S1 H1 e1 h1
    have hd := h1.head
    cases hd with
    | tup a1 a2 => exact ⟨_, rfl, ⟨_, Evl.ex_t h1.sh a1⟩, k _ S1 H1 e1 h1.tail (it_tup a1 a2)⟩
    | _ => exact k.elim
  | exc e1 ρ1 => rw [q] at k; exact k
  | bad => rw [q] at k; exact k
/-- range(n), range(m, n) -/
def ilist (lo : Int) (n : Nat) : List D := (List.range n).map fun (i : Nat) => .int (lo + (i : Int))
theorem it_range {lo : Int} {n : Nat} : ItOk K G F S (Itr lo n) (ilist lo n) := by
  have w := walk_range (lo := lo) (n := n)
  have l : (ilist lo n).length = n := by simp [ilist]
  refine ⟨fun i H hi e _ => w.goes i H (by rw [← l]; exact hi) trivial, fun H e _ => by rw [l]; exact w.stops H trivial, fun i H x H' d hd e _ y => .inl ?_⟩
  have hi : i < n := by rw [← l]; exact (List.getElem?_eq_some_iff.mp hd).1
  obtain ⟨y1, y2⟩ := w.yields i H x H' hi trivial y
  refine ⟨y1, ?_⟩
  have : (ilist lo n)[i]? = some (.int (lo + (i : Int))) := by simp [ilist, hi]
  rw [this] at hd
  cases hd
  rw [y2]
  exact .int _
def rng1 : List D → Option (List D)
  | [.int j] => if -1000000 ≤ j ∧ j ≤ 1000000 then some (ilist 0 j.toNat) else none
  | _ => none
def rng2 : List D → Option (List D)
  | [.int i, .int j] => if -1000000 ≤ i ∧ i ≤ 1000000 ∧ -1000000 ≤ j ∧ j ≤ 1000000 then some (ilist i (j - i).toNat) else none
  | _ => none
def mRng (f : List D → Option (List D)) (a : MA) : MA := fun ρ => (a ρ).bind fun ds ρ1 => RR.of (f ds) ρ1
theorem ji_rng1 {tg e : Expr} {a : MA} {p pos : Pos} (hm : X.mg "range" = none) (he : JA X G E μ [e] a) (hg : Gl X "range" := by rfl) (hs : starEach [e] X.env = [(false, eval e X.env)] := by rfl) : JI X G E μ tg (.Call (.Name "range" p) [e] [] pos) (mRng rng1 a) := by
  obtain ⟨t1, p1, s1⟩ := he.ex
  refine ⟨_, pi_range1 hg hm p1 hs, fun F S H σ ρ h R k => s1 F S H σ ρ h _ ?_⟩
  unfold mRng at k
  cases q : a ρ with
  | ok ds ρ1 =>
    rw [q, bind_ok] at k
    intro vs S1 H1 e1 h1 q1
    match ds, q1, k with
    | [.int j], .cons q2 .nil, k =>
      cases q2
      have k' : IOk X.K G E μ F S σ R (RR.of (if -1000000 ≤ j ∧ j ≤ 1000000 then some (ilist 0 j.toNat) else none) ρ1) := k
      split at k'
      · rename_i hc
        exact ⟨j, rfl, by omega, by omega, k' _ S1 H1 e1 h1 it_range⟩
      · exact k'.elim
  | exc e1 ρ1 => rw [q] at k; exact k
  | bad => rw [q] at k; exact k
theorem ji_rng2 {tg e e2 : Expr} {a : MA} {p pos : Pos} (hm : X.mg "range" = none) (he : JA X G E μ [e, e2] a) (hg : Gl X "range" := by rfl) (hs : starEach [e, e2] X.env = [(false, eval e X.env), (false, eval e2 X.env)] := by rfl) (hs2 : starEach [e2] X.env = [(false, eval e2 X.env)] := by rfl) :
    JI X G E μ tg (.Call (.Name "range" p) [e, e2] [] pos) (mRng rng2 a) := by
  obtain ⟨t1, p1, s1⟩ := he.ex
  refine ⟨_, pi_range2 hg hm p1 hs hs2, fun F S H σ ρ h R k => s1 F S H σ ρ h _ ?_⟩
  unfold mRng at k
  cases q : a ρ with
  | ok ds ρ1 =>
    rw [q, bind_ok] at k
    intro vs S1 H1 e1 h1 q1
    match ds, q1, k with
    | [.int i, .int j], .cons q2 (.cons q3 .nil), k =>
      cases q2
      cases q3
      have k' : IOk X.K G E μ F S σ R (RR.of (if -1000000 ≤ i ∧ i ≤ 1000000 ∧ -1000000 ≤ j ∧ j ≤ 1000000 then some (ilist i (j - i).toNat) else none) ρ1) := k
      split at k'
      · rename_i hc
        exact ⟨i, j, rfl, by omega, k' _ S1 H1 e1 h1 it_range⟩
      · exact k'.elim
  | exc e1 ρ1 => rw [q] at k; exact k
  | bad => rw [q] at k; exact k
end
end MR

set_option Elab.async false
set_option linter.all false
set_option maxRecDepth 100000
set_option maxHeartbeats 1000000
/-! MB6: owned results, comprehensions. -/
namespace MR
open PySem L2 PyProof.Rows
section
variable {X : Cx} {G : Cl} {E : XS} {C : SC} {μ μ' μ1 : List Mode} {r : Mode}
variable {K : PySem.W.Frag} {F : Fo} {S H : Hp} {σ : L2.St} {ρ : List D}
/-- an owned result is frozen -/
theorem je_frz {e : Expr} {m : ME} (h : JE X G E .o μ e m) : JE X G E .d μ e m := by
  obtain ⟨t1, p1, s1⟩ := h.ex
  refine ⟨t1, p1, fun F S H σ ρ h Q k => s1 F S H σ ρ h _ ?_⟩
  cases q : m ρ with
  | ok d ρ1 =>
    rw [q] at k
    intro v S1 H1 e1 h1
    obtain ⟨S2, e2, h2⟩ := h1.frz (i := 0) rfl
    exact k v S2 H1 (e1.trans e2) h2
  | exc e1 ρ1 => rw [q] at k; exact k
  | bad => rw [q] at k; exact k
/-- an owned variable is handed out -/
theorem EnvOk.give {i : Nat} {s : Option V} (h : EnvOk K G F S H μ σ ρ) (e : μ[i]? = some .o) (hs : σ[i]? = some s) : EnvOk K G F S H (.o :: μ.set i .x) (s :: σ) (ρ.getD i .non :: ρ) := by
  obtain ⟨fp, ⟨f1, f2, f3⟩, f4, sl, th⟩ := h.fps
  have hi : i < μ.length := (List.getElem?_eq_some_iff.mp e).1
  refine ⟨h.sh, h.fk, by simp [h.ls], by simp [h.lr], fun j => match j with | 0 => fp i | j + 1 => if j = i then [] else fp j, ⟨?_, ?_, ?_⟩, ?_, ?_⟩
  · intro j a ha
    cases j with
    | zero => exact f1 i a ha
    | succ j =>
      dsimp only at ha
      split at ha
      · cases ha
      · exact f1 j a ha
  · intro j k a ha hb
    cases j with
    | zero =>
      cases k with
      | zero => rfl
      | succ k =>
        dsimp only at ha hb
        split at hb
        · cases hb
        · exact absurd (f2 i k a ha hb).symm (by assumption)
    | succ j =>
      cases k with
      | zero =>
        dsimp only at ha hb
        split at ha
        · cases ha
        · exact absurd (f2 i j a hb ha).symm (by assumption)
      | succ k =>
        dsimp only at ha hb
        split at ha
        · cases ha
        · split at hb
          · cases hb
          · exact congrArg (· + 1) (f2 j k a ha hb)
  · intro j
    cases j with
    | zero => exact f3 i
    | succ j =>
      show (if j = i then [] else fp j).Nodup
      split
      · exact List.nodup_nil
      · exact f3 j
  · intro j hj
    cases j with
    | zero => simp at hj
    | succ j =>
      show (if j = i then [] else fp j) = []
      split
      · rfl
      · exact f4 j (by simpa using hj)
  · intro j m e2
    cases j with
    | zero =>
      simp only [List.getElem?_cons_zero, Option.some.injEq] at e2
      subst e2
      have z := sl i .o e
      rw [hs] at z
      simpa using z
    | succ j =>
      rw [List.getElem?_cons_succ] at e2
      by_cases hj : j = i
      · subst hj
        rw [List.getElem?_set_self hi] at e2
        cases e2
        show (if j = j then [] else fp j) = []
        rw [if_pos rfl]
      · rw [List.getElem?_set_ne (Ne.symm hj)] at e2
        have z := sl j m e2
        show SlotOk K G F.pin S H m _ _ (if j = i then [] else fp j)
        rw [if_neg hj]
        simpa using z
def mRetO (i : Nat) : MS := fun ρ => .ret (ρ.getD i .non) ρ
theorem js_retO {x : Str} {i : Nat} {p pos : Pos} (hr : C.rm = .o := by rfl) (e : μ[i]? = some .o := by rfl) (w : ModesLe C.μx (μ.set i .x) = true := by rfl) (hN : X.N[i]? = some x := by rfl) (hx : Vis X.env.scope x := by first | exact Or.inl rfl | exact Or.inr (Or.inl rfl) | exact Or.inr (Or.inr rfl)) (hd : (x == ("__debug__" : Str)) = false := by decide) (hcd : (x == ("__classdict__" : Str)) = false := by decide) :
    JS X G C μ μ' (.Return (some (.Name x p)) pos) (mRetO i) := by
  refine ⟨_, ps_ret (pe_var hN hx hd hcd), fun F S H σ ρ h D k => ?_⟩
  obtain ⟨p, q1, q2⟩ := h.ovar e
  refine ⟨_, q1, k _ (μ.set i .x) σ S H w (Evl.Ex.refl S) ?_⟩
  rw [hr]
  exact h.give e q1
/-- the truth of an owned list -/
def mTrO (i : Nat) : MT := fun ρ => match lstAt i ρ with
  | some ds => .ok (!ds.isEmpty) ρ
  | none => .bad
theorem jt_trO {x : Str} {i : Nat} {p : Pos} (e : μ[i]? = some .o := by rfl) (hN : X.N[i]? = some x := by rfl) (hx : Vis X.env.scope x := by first | exact Or.inl rfl | exact Or.inr (Or.inl rfl) | exact Or.inr (Or.inr rfl)) (hd : (x == ("__debug__" : Str)) = false := by decide) (hcd : (x == ("__classdict__" : Str)) = false := by decide)
    (he : ∀ whole, isTrue (.Name x p) X.env whole = (do let v ← whole; standAt (Expr.pos (.Name x p)); holding [v] (truthy v)) := by intro _; rfl) : JT X G E μ (.Name x p) (mTrO i) := by
  refine ⟨_, pt_truth (pe_var hN hx hd hcd) he, fun F S H σ ρ h Q k => ?_⟩
  obtain ⟨p, q1, q2⟩ := h.ovar e
  unfold mTrO at k
  cases z : lstAt i ρ with
  | none => rw [z] at k; exact k.elim
  | some ds =>
    rw [z] at k
    obtain ⟨vs, z1, z2⟩ := h.olst e q1 z
    refine ⟨_, q1, !ds.isEmpty, .inl ⟨vs, .inl (.inl z1), ?_⟩, k S H (Evl.Ex.refl S) h⟩
    cases z2 <;> rfl

/-! ### a list that is being made stands with what is foreign -/
theorem EnvOk.addF {p : Addr} {o : HO} {ho : noTup o = true} (h : EnvOk K G F S H μ σ ρ) (hp : H p = none) : EnvOk K G (F.upd p o ho) S (upd H p o) μ σ ρ := by
  have hS : S p = none := ex_none h.sh hp
  obtain ⟨fp, ⟨f1, f2, f3⟩, f4, sl, th⟩ := h.fps
  have np : ∀ i a, a ∈ fp i → a ≠ p := fun i a hi z => by
    obtain ⟨o', e, _⟩ := th i a hi
    rw [z, hp] at e
    cases e
  have e2 : Ex H (upd H p o) := Evl.Ex.new hp
  refine ⟨h.sh.trans e2, fun a u q => ?_, h.ls, h.lr, fp, ⟨fun i a ha => ⟨(f1 i a ha).1, by rw [Fo.upd_ne (np i a ha)]; exact (f1 i a ha).2⟩, f2, f3⟩, f4, fun i m q => (sl i m q).mono (Evl.Ex.refl S) fun a ha => upd_ne (np i a ha)⟩
  by_cases z : a = p
  · subst z
    rw [Fo.upd_same] at q
    rw [upd_same]
    exact ⟨q, hS⟩
  · rw [Fo.upd_ne z] at q
    rw [upd_ne z]
    exact h.fk a u q
theorem EnvOk.chF {p : Addr} {o o' : HO} {ho : noTup o = true} {ho' : noTup o' = true} (h : EnvOk K G (F.upd p o ho) S H μ σ ρ) : EnvOk K G (F.upd p o' ho') S (upd H p o') μ σ ρ := by
  obtain ⟨hp, hS⟩ := h.fk p o Fo.upd_same
  obtain ⟨fp, ⟨f1, f2, f3⟩, f4, sl, th⟩ := h.fps
  have np : ∀ i a, a ∈ fp i → a ≠ p := fun i a hi z => by
    have := (f1 i a hi).2
    rw [z, Fo.upd_same] at this
    cases this
  refine ⟨fun a u z => ?_, fun a u q => ?_, h.ls, h.lr, fp, ⟨fun i a ha => ⟨(f1 i a ha).1, ?_⟩, f2, f3⟩, f4, fun i m q => (sl i m q).mono (Evl.Ex.refl S) fun a ha => upd_ne (np i a ha)⟩
  · rw [upd_ne (ne_of_none z hS)]
    exact h.sh _ _ z
  · by_cases z : a = p
    · subst z
      rw [Fo.upd_same] at q
      rw [upd_same]
      exact ⟨q, hS⟩
    · rw [Fo.upd_ne z] at q
      rw [upd_ne z]
      exact h.fk a u (by rw [Fo.upd_ne z]; exact q)
  · have := (f1 i a ha).2
    rw [Fo.upd_ne (np i a ha)] at this ⊢
    exact this
theorem EnvOk.takeF {p : Addr} {vs : List V} {ds : List D} (h : EnvOk K G (F.upd p (.lst vs)) S H μ σ ρ) (hF : F p = none) (q : DatL K G S vs ds) : EnvOk K G F S H (.o :: μ) (some (.ref p) :: σ) (.lst ds :: ρ) := by
  obtain ⟨hp, hS⟩ := h.fk p _ Fo.upd_same
  obtain ⟨fp, ⟨f1, f2, f3⟩, f4, sl, th⟩ := h.fps
  have np : ∀ i a, a ∈ fp i → a ≠ p := fun i a hi z => by
    have := (f1 i a hi).2
    rw [z, Fo.upd_same] at this
    cases this
  refine ⟨h.sh, fun a u z => h.fk a u (by rw [Fo.upd_ne (ne_of_none z hF)]; exact z), by simp [h.ls], by simp [h.lr], fun i => match i with | 0 => [p] | i + 1 => fp i, ⟨?_, ?_, ?_⟩, ?_, ?_⟩
  · intro i a ha
    cases i with
    | zero =>
      rw [List.mem_singleton.mp ha]
      exact ⟨hS, hF⟩
    | succ i =>
      refine ⟨(f1 i a ha).1, ?_⟩
      have := (f1 i a ha).2
      rw [Fo.upd_ne (np i a ha)] at this
      exact this
  · intro i j a ha hb
    cases i with
    | zero =>
      cases j with
      | zero => rfl
      | succ j => exact absurd (List.mem_singleton.mp ha) (np j a hb)
    | succ i =>
      cases j with
      | zero => exact absurd (List.mem_singleton.mp hb) (np i a ha)
      | succ j => exact congrArg (· + 1) (f2 i j a ha hb)
  · intro i
    cases i with
    | zero => exact List.nodup_cons.mpr ⟨by simp, List.nodup_nil⟩
    | succ i => exact f3 i
  · intro i hi
    cases i with
    | zero => simp at hi
    | succ i => exact f4 i (by simpa using hi)
  · intro i m e
    cases i with
    | zero =>
      simp only [List.getElem?_cons_zero, Option.some.injEq] at e
      subst e
      exact ⟨p, rfl, .lst hp q.ownL, rfl⟩
    | succ i =>
      have z := sl i m (by simpa using e)
      simpa [Fo.upd] using z
/-- slots that are not known may hold anything -/
theorem EnvOk.swapσ {σ' : L2.St} (h : EnvOk K G F S H μ σ ρ) (hl : σ'.length = σ.length) (k : ∀ (i : Nat) (m : Mode), μ[i]? = some m → m ≠ Mode.x → σ'[i]? = σ[i]?) : EnvOk K G F S H μ σ' ρ := by
  obtain ⟨sh, fk, ls, lr, fp, f, f4, sl⟩ := h
  refine ⟨sh, fk, hl.trans ls, lr, fp, f, f4, fun i m e => ?_⟩
  have z := sl i m e
  cases m with
  | x => exact z
  | _ => rw [k i _ e (by simp)]; exact z
theorem wipe_get (σ : L2.St) : ∀ (vs : List Nat) (i : Nat), i ∉ vs → (wipe σ vs)[i]? = σ[i]?
  | [], _, _ => rfl
  | v :: vs, i, h => by
    have h1 : v ≠ i := fun z => h (by simp [z])
    have h2 : i ∉ vs := fun z => h (List.mem_cons_of_mem _ z)
    show ((wipe σ vs).set v none)[i]? = _
    rw [List.getElem?_set_ne h1]
    exact wipe_get σ vs i h2
def allX (μ : List Mode) (vs : List Nat) : Bool := vs.all fun i => decide (μ[i]? = some .x)
theorem EnvOk.wipe {vs : List Nat} (h : EnvOk K G F S H μ σ ρ) (hx : allX μ vs = true) : EnvOk K G F S H μ (L2.wipe σ vs) ρ := by
  refine h.swapσ (wipe_length σ vs) fun i m e n => wipe_get σ vs i fun hi => ?_
  have := List.all_eq_true.mp hx i hi
  rw [decide_eq_true_iff, e] at this
  exact n (Option.some.inj this)
theorem wipe_wipe (σ : L2.St) (vs : List Nat) : L2.wipe (L2.wipe σ vs) vs = L2.wipe σ vs := by
  apply List.ext_getElem?
  intro i
  by_cases h : i ∈ vs
  · have key : ∀ (τ : L2.St) (ws : List Nat), i ∈ ws → i < τ.length → (L2.wipe τ ws)[i]? = some none := by
      intro τ ws
      induction ws with
      | nil => intro h; cases h
      | cons w ws ih =>
        intro h hl
        show ((L2.wipe τ ws).set w none)[i]? = _
        by_cases e : w = i
        · subst e
          rw [List.getElem?_set_self (by rw [wipe_length]; exact hl)]
        · rw [List.getElem?_set_ne e]
          rcases List.mem_cons.mp h with z | z
          · exact absurd z.symm e
          · exact ih z hl
    by_cases hl : i < σ.length
    · rw [key _ vs h (by rw [wipe_length]; exact hl), key _ vs h hl]
    · rw [List.getElem?_eq_none (by rw [wipe_length, wipe_length]; omega), List.getElem?_eq_none (by rw [wipe_length]; omega)]
  · rw [wipe_get _ vs i h]
/-- a target writes these slots alone -/
def GW (g : TG) (vs : List Nat) : Prop := ∀ v σ H Q (Q' : L2.St → Hp → Prop), g v σ H Q → (∀ σ2 H2, L2.wipe σ2 vs = L2.wipe σ vs → Q σ2 H2 → Q' σ2 H2) → g v σ H Q'
def GWs (g : TGs) (vs : List Nat) : Prop := ∀ v σ H Q (Q' : L2.St → Hp → Prop), g v σ H Q → (∀ σ2 H2, L2.wipe σ2 vs = L2.wipe σ vs → Q σ2 H2 → Q' σ2 H2) → g v σ H Q'
theorem wipe_set {σ : L2.St} {vs : List Nat} {i : Nat} {s : Option V} (h : i ∈ vs) : L2.wipe (σ.set i s) vs = L2.wipe σ vs := by
  induction vs with
  | nil => cases h
  | cons w ws ih =>
    show (L2.wipe (σ.set i s) ws).set w none = (L2.wipe σ ws).set w none
    by_cases e : i ∈ ws
    · rw [ih e]
    · rcases List.mem_cons.mp h with z | z
      · subst z
        have : L2.wipe (σ.set i s) ws = (L2.wipe σ ws).set i s := by
          clear ih h
          induction ws with
          | nil => rfl
          | cons u us ih2 =>
            have e2 : i ∉ us := fun z => e (List.mem_cons_of_mem _ z)
            have e3 : i ≠ u := fun z => e (by simp [z])
            show (L2.wipe (σ.set i s) us).set u none = ((L2.wipe σ us).set u none).set i s
            rw [ih2 e2, List.set_comm _ _ (Ne.symm e3)]
        rw [this, List.set_set]
      · exact absurd z e
theorem gw_name {i : Nat} {vs : List Nat} (h : i ∈ vs) : GW (gName i) vs := fun v σ H Q Q' q k => k _ _ (wipe_set h) q
theorem gws_nil {vs : List Nat} : GWs gNil vs := fun v σ H Q Q' ⟨e, q⟩ k => ⟨e, k _ _ rfl q⟩
structure JGc (X : Cx) (G : Cl) (μ μ' : List Mode) (vs : List Nat) (e : Expr) (b : MB) : Prop where
  ex : ∃ g, PG X e g ∧ SG X.K G μ μ' g b ∧ GW g vs
structure JGcs (X : Cx) (G : Cl) (μ μ' : List Mode) (vs : List Nat) (es : List Expr) (b : List D → List D → Option (List D)) : Prop where
  ex : ∃ g, PGs X es g ∧ (∀ F S H σ ρ vs ds ρ', EnvOk X.K G F S H μ σ ρ → DatL X.K G S vs ds → b ds ρ = some ρ' →
    ∀ Q : L2.St → Hp → Prop, (∀ σ' S' H', Ex S S' → EnvOk X.K G F S' H' μ' σ' ρ' → Q σ' H') → g vs σ H Q) ∧ GWs g vs
theorem jgc_name {i : Nat} {x : Str} {pos : Pos} {vs : List Nat} (hN : X.N.Nodup) (hv : i ∈ vs := by decide) (hi : X.N[i]? = some x := by rfl) (hx : Loc X.env.scope x := by first | exact Or.inl rfl | exact Or.inr rfl) (hlt : i < μ.length := by decide) (hf : X.fn x = true ∨ X.env.scope.names.lookup x = some .local := by first | exact .inl rfl | exact .inr rfl) :
    JGc X G μ (μ.set i .d) vs (.Name x pos) (bName i) := ⟨_, pg_name hN hi hx hf, fun F S H σ ρ v d ρ' h q e Q k => by
  cases e
  exact k _ S H (Evl.Ex.refl S) ((h.push q).store hlt), gw_name hv⟩
theorem jgcs_nil {vs : List Nat} : JGcs X G μ μ vs [] bNil := by
  refine ⟨_, pgs_nil, fun F S H σ ρ vs ds ρ' h q e Q k => ?_, gws_nil⟩
  unfold bNil at e
  split at e
  · cases e
    cases q
    exact ⟨rfl, k σ S H (Evl.Ex.refl S) h⟩
  · cases e
theorem jgcs_name {i : Nat} {x : Str} {pos : Pos} {vs : List Nat} {es : List Expr} {b : List D → List D → Option (List D)} (hN : X.N.Nodup) (h2 : JGcs X G (μ.set i .d) μ' vs es b) (hv : i ∈ vs := by decide) (hi : X.N[i]? = some x := by rfl) (hx : Loc X.env.scope x := by first | exact Or.inl rfl | exact Or.inr rfl) (hlt : i < μ.length := by decide) (hf : X.fn x = true ∨ X.env.scope.names.lookup x = some .local := by first | exact .inl rfl | exact .inr rfl)
    (hs : (assignEach (.Name x pos :: es) X.env).map (·.2) = assign (.Name x pos) X.env :: (assignEach es X.env).map (·.2) := by rfl) : JGcs X G μ μ' vs (.Name x pos :: es) (bCons (bName i) b) := by
  obtain ⟨t2, p2, s2, w2⟩ := h2.ex
  refine ⟨_, pgs_cons (pg_name hN hi hx hf) p2 hs, fun F S H σ ρ vs ds ρ' h q e Q k => ?_, fun v σ H Q Q' ⟨v1, r1, e1, q1⟩ k => ⟨v1, r1, e1, ?_⟩⟩
  · unfold bCons at e
    cases q with
    | nil => cases e
    | @cons v d vs ds q1 q2 => exact ⟨_, _, rfl, s2 F S H _ _ _ _ ρ' ((h.push q1).store hlt) q2 e Q k⟩
  · exact w2 _ _ _ _ Q' q1 fun σ2 H2 e2 q2 => k σ2 H2 (e2.trans (wipe_set hv)) q2
theorem jgc_tup {es : List Expr} {k n : Nat} {pos : Pos} {vs : List Nat} {b : List D → List D → Option (List D)} (h : JGcs X G μ μ' vs es b) (hc : X.calm = true := by rfl) (hn : (assignEach es X.env).length = n := by rfl) (hst : (assignEach es X.env).findIdx? (·.1) = none := by rfl) :
    JGc X G μ μ' vs (.Tuple es k pos) (bTup n b) := by
  obtain ⟨t1, p1, s1, w1⟩ := h.ex
  refine ⟨_, pg_tup hc p1 hn hst, fun F S H σ ρ v d ρ' h q e Q k => ?_, fun v σ H Q Q' ⟨a, xs, e1, e2, e3, q1⟩ k => ⟨a, xs, e1, e2, e3, w1 _ _ _ _ Q' q1 k⟩⟩
  unfold bTup at e
  split at e
  · split at e
    · rename_i hl
      cases q with
      | tup a1 a2 => exact ⟨_, _, rfl, Evl.ex_t h.sh a1, by rw [a2.length, hl], s1 F S H σ ρ _ _ ρ' h a2 e Q k⟩
    · cases e
  · cases e

theorem fxD {p : Addr} {o : HO} {ho : noTup o = true} (h : EnvOk K G (F.upd p o ho) S H μ σ ρ) (hF : F p = none) : Ex F.hp H := fun a u q => h.fx a u (by show L2.upd F.hp p o a = _; rw [L2.upd_ne (ne_of_none q hF)]; exact q)
/-! ### comprehensions -/
structure JTs (X : Cx) (G : Cl) (E : XS) (μ : List Mode) (es : List Expr) (m : MT) : Prop where
  ex : ∃ t, PTs X es t ∧ ST X.K G E μ t m
def mYes : MT := fun ρ => .ok true ρ
theorem jts_nil : JTs X G E μ [] mYes := ⟨_, pts_nil, fun F S H σ ρ h Q k => k S H (Evl.Ex.refl S) h⟩
theorem jts_one {c : Expr} {m : MT} (h : JT X G E μ c m) : JTs X G E μ [c] m := let ⟨t, p, s⟩ := h.ex; ⟨t, pts_one p, s⟩
def lcL (b : MB) (t : MT) (a : ME) (μ : List Mode) : List D → List D → List D → RR D
  | [], acc, ρ => .ok (.lst acc) ρ
  | d :: ds, acc, ρ => match b d ρ with
    | none => .bad
    | some ρ1 => match t ρ1 with
      | .ok true ρ2 => match a ρ2 with
        | .ok x ρ3 => if acc.length < 1000000 then lcL b t a μ ds (acc ++ [x]) (keep μ ρ3) else .bad
        | _ => .bad
      | .ok false ρ2 => lcL b t a μ ds acc (keep μ ρ2)
      | _ => .bad
def mLc (it : MA) (b : MB) (t : MT) (a : ME) (μ : List Mode) : ME := fun ρ => (it ρ).bind fun ds ρ1 => lcL b t a μ ds [] ρ1
/-- what a comprehension's target asks of its reading -/
def SGW (K : PySem.W.Frag) (G : Cl) (μ μ' : List Mode) (vs : List Nat) (g : TG) (b : MB) : Prop := ∀ F S H σ ρ v d ρ', EnvOk K G F S H μ σ ρ → Dat K G S v d → b d ρ = some ρ' →
  ∀ Q : L2.St → Hp → Prop, (∀ σ' S' H', Ex S S' → EnvOk K G F S' H' μ' σ' ρ' → L2.wipe σ' vs = L2.wipe σ vs → Q σ' H') → g v σ H Q
theorem se_lc {vs : List Nat} {wi : TI} {g : TG} {tt : TT} {te : TE} {it : MA} {b : MB} {t : MT} {a : ME} (s1 : SI K G E μ wi it) (s2 : SGW K G μ μ1 vs g b) (s3 : ST K G (fun _ => E0) μ1 tt t) (s4 : SE K G (fun _ => E0) .d μ1 te a)
    (hx : allX μ vs = true) (hm : ModesLe μ μ1 = true) : SE K G E .o μ (tLc wi g tt te vs) (mLc it b t a μ) := by
  intro F S H σ ρ h Q k
  refine s1 F S H σ ρ h _ ?_
  unfold mLc at k
  cases q : it ρ with
  | ok ds ρ1 =>
    rw [q, bind_ok] at k
    intro J S1 H1 e1 h1 J1 D hD
    have hF : F D = none := h1.freshF hD
    refine ⟨fun i m H2 => m = ds.length - i ∧ i ≤ ds.length ∧ ∃ S2 ρ2 acc vacc, Ex S1 S2 ∧ EnvOk K G (F.upd D (.lst vacc)) S2 H2 μ σ ρ2 ∧ DatL K G S2 vacc acc ∧ EOk K G E .o μ F S2 σ Q (lcL b t a μ (ds.drop i) acc ρ2), ⟨ds.length, by simp, Nat.zero_le _, S1, ρ1, [], [], Evl.Ex.refl S1, h1.addF hD, .nil, EOk.mono e1 k⟩, ?_⟩
    rintro i m H2 ⟨rfl, hi, S2, ρ2, acc, vacc, e2, h2, q2, k2⟩
    obtain ⟨hD2, hS2⟩ := h2.fk D _ Fo.upd_same
    by_cases hlt : i < ds.length
    · refine .inr ⟨J1.goes i H2 hlt (e2.trans h2.sh) (fxD h2 hF), fun H3 => ∃ S3 ρ3 acc vacc, Ex S1 S3 ∧ EnvOk K G (F.upd D (.lst vacc)) S3 H3 μ σ ρ3 ∧ DatL K G S3 vacc acc ∧ EOk K G E .o μ F S3 σ Q (lcL b t a μ (ds.drop (i + 1)) acc ρ3), fun H3 z => ⟨ds.length - (i + 1), by omega, rfl, hlt, z⟩, fun x H' y => ?_⟩
      obtain ⟨S3, e3, h3, q3⟩ := J1.item h2 e2 (fxD h2 hF) (List.getElem?_eq_getElem hlt) y
      rw [List.drop_eq_getElem_cons hlt] at k2
      unfold lcL at k2
      have h3' := h3.wipe hx
      cases q4 : b ds[i] ρ2 with
      | none => rw [q4] at k2; exact k2.elim
      | some ρ3 =>
        rw [q4] at k2
        -- what the rest asks is carried with where the slots stand
        have main : ∀ σ4 S4 H4, Ex S3 S4 → EnvOk K G (F.upd D (.lst vacc)) S4 H4 μ1 σ4 ρ3 → L2.wipe σ4 vs = L2.wipe σ vs → tt σ4 H4 fun c H5 => if c = true then te σ4 H5 fun y H6 => ∃ acc, H6 D = some (.lst acc) ∧ acc.length < sizeLine ∧ (∃ S3 ρ3 acc' vacc, Ex S1 S3 ∧ EnvOk K G (F.upd D (.lst vacc)) S3 (upd H6 D (.lst (acc ++ [y]))) μ σ ρ3 ∧ DatL K G S3 vacc acc' ∧ EOk K G E .o μ F S3 σ Q (lcL b t a μ (ds.drop (i + 1)) acc' ρ3))
            else ∃ S3 ρ3 acc vacc, Ex S1 S3 ∧ EnvOk K G (F.upd D (.lst vacc)) S3 H5 μ σ ρ3 ∧ DatL K G S3 vacc acc ∧ EOk K G E .o μ F S3 σ Q (lcL b t a μ (ds.drop (i + 1)) acc ρ3) := by
          intro σ4 S4 H4 e4 h4 hw
          have back : ∀ {S5 H5 ρ5} {F' : Fo}, EnvOk K G F' S5 H5 μ1 σ4 ρ5 → EnvOk K G F' S5 H5 μ σ (keep μ ρ5) := fun h5 => by
            have z := (h5.weak hm)
            refine (z.swapσ (σ' := σ) ?_ fun j m e n => ?_)
            · have := congrArg List.length hw
              rw [wipe_length, wipe_length] at this
              exact this.symm
            · have hj : j ∉ vs := fun hj => by
                have := List.all_eq_true.mp hx j hj
                rw [decide_eq_true_iff, e] at this
                exact n (Option.some.inj this)
              rw [← wipe_get σ vs j hj, ← hw, wipe_get σ4 vs j hj]
          refine s3 _ S4 H4 σ4 ρ3 h4 _ ?_
          have k3 := EOk.mono (e3.trans e4) k2
          dsimp only at k3
          cases q5 : t ρ3 with
          | ok c ρ4 =>
            rw [q5] at k3
            intro S5 H5 e5 h5
            cases c with
            | true =>
              rw [if_pos rfl]
              refine s4 _ S5 H5 σ4 ρ4 h5 _ ?_
              have k4 := EOk.mono e5 k3
              dsimp only at k4
              cases q6 : a ρ4 with
              | ok z ρ5 =>
                rw [q6] at k4
                intro v S6 H6 e6 h6
                dsimp only at k4
                split at k4
                · rename_i hl
                  have h7 := h6.tail
                  obtain ⟨hD6, hS6⟩ := h7.fk D _ Fo.upd_same
                  have q7 := (((q2.mono e3).mono e4).mono e5).mono e6
                  exact ⟨vacc, hD6, lt_line (by rw [q2.length]; exact hl), S6, _, _, _, (((e2.trans e3).trans e4).trans e5).trans e6, back h7.chF, q7.append (.cons h6.head .nil), EOk.mono e6 k4⟩
                · exact k4.elim
              | exc _ _ => rw [q6] at k4; exact k4.elim
              | bad => rw [q6] at k4; exact k4.elim
            | false =>
              rw [if_neg Bool.false_ne_true]
              exact ⟨S5, _, acc, vacc, ((e2.trans e3).trans e4).trans e5, back h5, ((q2.mono e3).mono e4).mono e5, EOk.mono e5 k3⟩
          | exc _ _ => rw [q5] at k3; exact k3.elim
          | bad => rw [q5] at k3; exact k3.elim
        refine s2 _ S3 H' (L2.wipe σ vs) ρ2 x _ ρ3 h3' q3 q4 _ fun σ4 S4 H4 e4 h4 hw => ?_
        rw [wipe_wipe] at hw
        exact ⟨hw.trans rfl, main σ4 S4 H4 e4 h4 hw⟩
    · have e4 : i = ds.length := by omega
      subst e4
      rw [List.drop_length] at k2
      exact .inl ⟨J1.stops H2 (e2.trans h2.sh) (fxD h2 hF), k2 _ S2 H2 (Evl.Ex.refl S2) (h2.takeF hF q2)⟩
  | exc e1 ρ1 => rw [q] at k; exact k
  | bad => rw [q] at k; exact k
/-! the readings that a mirror itself gives -/
def tM (K : PySem.W.Frag) (G : Cl) (E : XS) (r : Mode) (μ : List Mode) (m : ME) : TE := fun σ H Q => ∃ F S ρ, EnvOk K G F S H μ σ ρ ∧ EOk K G E r μ F S σ Q (m ρ)
def ttM (K : PySem.W.Frag) (G : Cl) (E : XS) (μ : List Mode) (m : MT) : TT := fun σ H Q => ∃ F S ρ, EnvOk K G F S H μ σ ρ ∧ TOk K G E μ F S σ Q (m ρ)
def gM (K : PySem.W.Frag) (G : Cl) (μ μ' : List Mode) (vs : List Nat) (b : MB) : TG := fun v σ H Q => ∃ F S ρ d ρ', EnvOk K G F S H μ σ ρ ∧ Dat K G S v d ∧ b d ρ = some ρ' ∧ ∀ σ' S' H', Ex S S' → EnvOk K G F S' H' μ' σ' ρ' → L2.wipe σ' vs = L2.wipe σ vs → Q σ' H'
theorem JE.pe {e : Expr} {m : ME} (h : JE X G E r μ e m) : PE X e (tM X.K G E r μ m) := by
  obtain ⟨t, p, s⟩ := h.ex
  exact ⟨fun pins s0 σ H Q I ⟨F, S, ρ, h1, h2⟩ => p.run pins s0 σ H Q I (s F S H σ ρ h1 Q h2)⟩
theorem JTs.pt {es : List Expr} {m : MT} (h : JTs X G E μ es m) : PTs X es (ttM X.K G E μ m) := by
  obtain ⟨t, p, s⟩ := h.ex
  exact ⟨fun pins s0 σ H Q I ⟨F, S, ρ, h1, h2⟩ => p.run pins s0 σ H Q I (s F S H σ ρ h1 Q h2)⟩
theorem JGc.pg {e : Expr} {b : MB} {vs : List Nat} (h : JGc X G μ μ' vs e b) : PG X e (gM X.K G μ μ' vs b) := by
  obtain ⟨g, p, s, w⟩ := h.ex
  refine ⟨fun pins s0 σ H v u Q I rv ⟨F, S, ρ, d, ρ', h1, h2, h3, h4⟩ => p.run pins s0 σ H v u Q I rv ?_⟩
  exact w v σ H _ Q (s F S H σ ρ v d ρ' h1 h2 h3 (fun σ' H' => ∃ S', Ex S S' ∧ EnvOk X.K G F S' H' μ' σ' ρ') fun σ' S' H' e1 e2 => ⟨S', e1, e2⟩) fun σ2 H2 e1 ⟨S', e2, e3⟩ => h4 σ2 S' H2 e2 e3 e1
theorem se_tM {m : ME} : SE K G E r μ (tM K G E r μ m) m := fun F S H σ ρ h Q k => ⟨F, S, ρ, h, k⟩
theorem st_tM {m : MT} : ST K G E μ (ttM K G E μ m) m := fun F S H σ ρ h Q k => ⟨F, S, ρ, h, k⟩
theorem sgw_gM {b : MB} {vs : List Nat} : SGW K G μ μ' vs (gM K G μ μ' vs b) b := fun F S H σ ρ v d ρ' h1 h2 h3 Q k => ⟨F, S, ρ, d, ρ', h1, h2, h3, k⟩
/-- [elt for tg in iter if ..] -/
theorem lc_all {vs : List Nat} {wi : TI} {it : MA} {b : MB} {t : MT} {a : ME} (s1 : SI K G E μ wi it) (hx : allX μ vs = true) (hm : ModesLe μ μ1 = true) :
    SE K G E .o μ (tLc wi (gM K G μ μ1 vs b) (ttM K G (fun _ => E0) μ1 t) (tM K G (fun _ => E0) .d μ1 a) vs) (mLc it b t a μ) := se_lc s1 sgw_gM st_tM se_tM hx hm
theorem je_lcO {vs : List Nat} {elt tg iter : Expr} {ifs : List Expr} {scope : Scope} {own : List (Str × Nat)} {pos : Pos} {it : MA} {b : MB} {t : MT} {a : ME} (hN : X.N.Nodup) (hi : JI X G E μ tg iter it) (ok : blkC X.N X.env.scope scope own = true)
    (hg : ∀ (s : Shared) (H : Hp) (A : Addr) (cl : List (Str × Addr)) (fp : List Addr), JGc (X.blk s H scope (compEnvC scope cl A X.env) fp) G μ μ1 vs tg b)
    (ht : ∀ (s : Shared) (H : Hp) (A : Addr) (cl : List (Str × Addr)) (fp : List Addr), JTs (X.blk s H scope (compEnvC scope cl A X.env) fp) G (fun _ => E0) μ1 ifs t)
    (he : ∀ (s : Shared) (H : Hp) (A : Addr) (cl : List (Str × Addr)) (fp : List Addr), JE (X.blk s H scope (compEnvC scope cl A X.env) fp) G (fun _ => E0) .d μ1 elt a)
    (hv : own.map (·.2) = vs := by rfl) (hx : allX μ vs = true := by rfl) (hm : ModesLe μ μ1 = true := by rfl) (hc : X.calm = true := by rfl) (hs : ∀ x, foldedSetIterable iter X.env x = pure x := by intro _; rfl) :
    JE X G E .o μ (.ListComp elt [⟨tg, iter, ifs, 0⟩] scope pos) (mLc it b t a μ) := by
  obtain ⟨wi, p1, s1⟩ := hi.ex
  refine ⟨_, pe_lc (g := gM X.K G μ μ1 vs b) (tt := ttM X.K G (fun _ => E0) μ1 t) (te := tM X.K G (fun _ => E0) .d μ1 a) hc hN p1 (blkOk_by ok) (fun s H A cl fp => (hg s H A cl fp).pg) (fun s H A cl fp => (ht s H A cl fp).pt) (fun s H A cl fp => (he s H A cl fp).pe) hs, ?_⟩
  rw [hv]
  exact lc_all s1 hx hm
theorem js_asgLcO {i : Nat} {y : Str} {py : Pos} {vs : List Nat} {elt tg iter : Expr} {ifs : List Expr} {scope : Scope} {own : List (Str × Nat)} {pos spos : Pos} {it : MA} {b : MB} {t : MT} {a : ME} (hN : X.N.Nodup) (hi : JI X G C.E μ tg iter it) (ok : blkC X.N X.env.scope scope own = true)
    (hg : ∀ (s : Shared) (H : Hp) (A : Addr) (cl : List (Str × Addr)) (fp : List Addr), JGc (X.blk s H scope (compEnvC scope cl A X.env) fp) G μ μ1 vs tg b)
    (ht : ∀ (s : Shared) (H : Hp) (A : Addr) (cl : List (Str × Addr)) (fp : List Addr), JTs (X.blk s H scope (compEnvC scope cl A X.env) fp) G (fun _ => E0) μ1 ifs t)
    (he : ∀ (s : Shared) (H : Hp) (A : Addr) (cl : List (Str × Addr)) (fp : List Addr), JE (X.blk s H scope (compEnvC scope cl A X.env) fp) G (fun _ => E0) .d μ1 elt a)
    (hsw : swapsWith (.ListComp elt [⟨tg, iter, ifs, 0⟩] scope pos) (some (.Name y py)) spos.line X.env = pure true)
    (hy : X.N[i]? = some y := by rfl) (hyl : X.env.scope.names.lookup y = some .local := by rfl) (hlt : i < μ.length := by decide) (w : ModesLe C.μx μ = true := by rfl)
    (hv : own.map (·.2) = vs := by rfl) (hx : allX μ vs = true := by rfl) (hm : ModesLe μ μ1 = true := by rfl) (hc : X.calm = true := by rfl) (hs : ∀ x, foldedSetIterable iter X.env x = pure x := by intro _; rfl) :
    JS X G C μ (μ.set i .o) (.Assign [.Name y py] (.ListComp elt [⟨tg, iter, ifs, 0⟩] scope pos) spos) (mAsg i (mLc it b t a μ)) := by
  obtain ⟨wi, p1, s1⟩ := hi.ex
  refine ⟨_, ps_setLc (g := gM X.K G μ μ1 vs b) (tt := ttM X.K G (fun _ => E0) μ1 t) (te := tM X.K G (fun _ => E0) .d μ1 a) hc hN hy hyl hsw p1 (blkOk_by ok) (fun s H A cl fp => (hg s H A cl fp).pg) (fun s H A cl fp => (ht s H A cl fp).pt) (fun s H A cl fp => (he s H A cl fp).pe) hs, fun F S H σ ρ h D k => ?_⟩
  rw [hv]
  refine lc_all s1 hx hm F S H σ ρ h _ ?_
  unfold mAsg at k
  cases q : mLc it b t a μ ρ with
  | ok d ρ' => rw [q] at k; exact fun v S' H' e h' => k _ S' H' e (h'.store hlt)
  | exc e ρ' => rw [q] at k; exact xout w k
  | bad => rw [q] at k; exact k
/-- .. frozen -/
theorem js_frzA {st : Stmt} {i : Nat} {m : MS} (h : JS X G C μ (μ.set i .o) st m) (hlt : i < μ.length := by decide) : JS X G C μ (μ.set i .d) st m := by
  obtain ⟨t, p, s⟩ := h.ex
  refine ⟨t, p, fun F S H σ ρ h D k => s F S H σ ρ h D ?_⟩
  cases q : m ρ with
  | nx ρ' =>
    rw [q] at k
    intro σ' S' H' e h'
    obtain ⟨S2, e2, h2⟩ := h'.frz (i := i) (List.getElem?_set_self hlt)
    rw [List.set_set] at h2
    exact k σ' S2 H' (e.trans e2) h2
  | _ => rw [q] at k; exact k
end
end MR

set_option Elab.async false
set_option linter.all false
set_option maxRecDepth 100000
set_option maxHeartbeats 1000000
/-! MB7: defs with defaults, try and except, isinstance of a caught error. -/
namespace MR
open PySem L2 PySem.Spec PyProof.Rows
section
variable {K : PySem.W.Frag} {G : Cl} {E : XS} {C : SC} {μ μ' μ1 : List Mode} {r : Mode} {X : Cx}
variable {P : Program} {w : World} {mg : Str → Option Value} {base : Heap}
/-! ### defaults -/
theorem fnD_ok {x qual : Str} {params : Arguments} {body : List Stmt} {scope : Scope} {dvs : List V} {f : Addr} {fd : FuncData} {N ps : List Str} {lv n k : Nat} {rm : Mode} {b : MS} {μe : List Mode} (F : FunD K x qual params body scope dvs [] f fd) (sc : FnScope N ps scope) (hn : ps.length = n) (hk : N.length = n + k)
    (hb : ∀ (cdv : Value) (A : Around) (outer : List Env) (s : Shared) (H : Hp) (E : XK), Room lv (A.deeper (envOfC qual scope s.heap.objs.size f cdv)) →
      JSs (cxOf (L2.CX P w) P w K mg base N qual scope f cdv A outer s H E) G (scOf E rm n k) (List.replicate n .d ++ List.replicate k .x) μe body b) :
    FnOk P w K mg base (L2.CX P w) (lv + 1) f fd ps (spP K G n rm (mDef rm k b)) := by
  refine F.ok sc (fun vs H Q E h => by rw [spP_len h, hn]) fun cdv A outer s H vs Q E hr h => ?_
  obtain ⟨t, p1, s1⟩ := (hb cdv A outer s H E hr).ex
  obtain ⟨F0, S, ds, sh, fk, q, l, z⟩ := h
  have hv : vs.length = n := by rw [q.length, l]
  refine ⟨t, p1, ?_⟩
  have e0 : L2.start N vs = vs.map some ++ List.replicate k none := by
    unfold L2.start
    rw [show N.length - vs.length = k by omega]
  rw [e0]
  have en := EnvOk.args (G := G) sh fk q k
  rw [l] at en
  refine s1 F0 S H _ _ en _ ?_
  unfold mDef at z
  cases q2 : b (ds ++ List.replicate k .non) with
  | nx ρ' =>
    rw [q2] at z
    cases rm with
    | d => exact fun σ' S' H' e' h' => z _ S' H' e' (nonOk h' rfl)
    | _ => exact z.elim
  | ret d ρ' =>
    rw [q2] at z
    exact fun v μ1 σ' S' H' _ e' h' => z v S' H' e' h'.alone
  | exc e ρ' =>
    rw [q2] at z
    exact fun μ1 σ' c dct S' H' _ e' h' x => z c dct S' H' e' h'.nothing x
  | brk ρ' => rw [q2] at z; exact z.elim
  | cnt ρ' => rw [q2] at z; exact z.elim
  | bad => rw [q2] at z; exact z.elim
/-! ### try -/
theorem modeLe_trans {a b c : Mode} (h1 : ModeLe a b = true) (h2 : ModeLe b c = true) : ModeLe a c = true := by
  cases a <;> cases b <;> cases c <;> simp_all [ModeLe]
theorem modesLe_trans : ∀ {a b c : List Mode}, ModesLe a b = true → ModesLe b c = true → ModesLe a c = true
  | [], [], [], _, _ => rfl
  | a :: as, b :: bs, c :: cs, h1, h2 => by
    simp only [ModesLe, Bool.and_eq_true] at h1 h2 ⊢
    exact ⟨modeLe_trans h1.1 h2.1, modesLe_trans h1.2 h2.2⟩
/-- the classes: 0 to 7 the errors' own, 8 PriceError, 9 ValueError -/
def errIs (e : Err) (n : Nat) : Bool := n == 8 || n == 9 || e.tag == n
/-- a class that an except clause names, against the errors that may come (tags) -/
structure CatchO (K : PySem.W.Frag) (mg : Str → Option Value) (G : Cl) (x : Str) (n : Nat) (tags : List Nat) : Prop where
  ex : ∃ C, mg x = some (.ref C) ∧ ∀ e : Err, e.tag ∈ tags → PySem.W.exmOne K (.ref (G.eA e.tag)) (.ref C) = some (errIs e n)
structure IsO (K : PySem.W.Frag) (mg : Str → Option Value) (G : Cl) (x : Str) (n : Nat) (tags : List Nat) : Prop where
  ex : ∃ C, mg x = some (.ref C) ∧ ∀ e : Err, e.tag ∈ tags → PySem.W.kitOne K (.ref (G.eA e.tag)) (.ref C) = some (errIs e n)
structure IsB (K : PySem.W.Frag) (G : Cl) (T : String) (n : Nat) (tags : List Nat) : Prop where
  ex : ∀ e : Err, e.tag ∈ tags → PySem.W.kitOne K (.ref (G.eA e.tag)) (.type T) = some (errIs e n)
def mTry (tags : List Nat) (n : Nat) (μh : List Mode) (b : MS) (h : Err → MS) : MS := fun ρ => match b ρ with
  | .exc e ρ1 => if tags.contains e.tag = true then (if errIs e n = true then h e (keep μh ρ1) else .exc e ρ1) else .bad
  | o => o
/-- an error's name as it stands in a slot -/
theorem EnvOk.sete {F : Fo} {S H : Hp} {σ : L2.St} {ρ : List D} {i : Nat} {a : Addr} (h : EnvOk K G F S H μ σ ρ) (hx : μ[i]? = some .x) : EnvOk K G F S H (μ.set i (.e a)) (σ.set i (some (.ref a))) ρ := by
  obtain ⟨sh, fk, ls, lr, fp, f, f4, sl⟩ := h
  have hi : i < μ.length := (List.getElem?_eq_some_iff.mp hx).1
  refine ⟨sh, fk, by simpa using ls, by simpa using lr, fp, f, fun j hj => f4 j (by simpa using hj), fun j m e => ?_⟩
  by_cases z : j = i
  · subst z
    rw [List.getElem?_set_self hi] at e
    cases e
    rw [List.getElem?_set_self (by omega)]
    exact ⟨sl j .x hx, rfl⟩
  · rw [List.getElem?_set_ne (Ne.symm z)] at e ⊢
    exact sl j m e
theorem EnvOk.gone {F : Fo} {S H : Hp} {σ : L2.St} {ρ : List D} {i : Nat} (h : EnvOk K G F S H μ σ ρ) (hx : μ.getD i .x = .x) : EnvOk K G F S H μ (σ.set i none) ρ := by
  refine h.swapσ (by simp) fun j m e n => ?_
  have : j ≠ i := fun z => by
    subst z
    rw [List.getD_eq_getElem?_getD, e] at hx
    exact n hx
  rw [List.getElem?_set_ne (Ne.symm this)]
/-- the body of a try: its context, its wishes -/
abbrev SC.try (C : SC) (W : WX) (μh : List Mode) : SC := { C with E := fun σ c d H => W c d σ H, μx := μh }
theorem js_tryAs {x n : Str} {i cn : Nat} {tags : List Nat} {body suite : List Stmt} {b₀ : Stmt} {np pos pos' : Pos} {mb : MS} {mh : Err → MS} (μh : List Mode) (hN : X.N.Nodup) (hc : CatchO X.K X.mg G x cn tags) (tk : Takes X (fun c d σ H => C.E σ c d H))
    (hb : ∀ (W : WX) (pn : List (Addr × Obj)) (xe : Value → Shared → Prop), Takes (X.tr pn xe) W → PassesOwn (model X.prog X.w) X.A X.env xe → JSs (X.tr pn xe) G (C.try W μh) μ μ' body mb)
    (hsu : ∀ (e : Err) (a : Addr) (oe : Obj) (d : Option Addr) (pn : List (Addr × Obj)), e.tag ∈ tags → Zc (.ref (G.eA e.tag)) d oe → ((∀ m, e ≠ .line m) → d = none) → (∃ vs, oe.data = .fields vs) → JSs (X.suite a ((a, oe) :: pn)) G C (μh.set i (.e a)) μ' (b₀ :: suite) (mh e))
    (hx : μh[i]? = some .x := by rfl) (wx : ModesLe C.μx μh = true := by rfl) (h' : μ'.getD i .x = .x := by rfl) (hbk : C.μb.getD i .x = .x := by rfl) (hct : C.μc.getD i .x = .x := by rfl)
    (hs : X.stack = X.env :: X.outer := by rfl) (hf : X.env.frame = some X.env.locals := by rfl) (hi : X.N[i]? = some n := by rfl) (hln : X.env.kindOf n = some .local := by rfl) (hg : Gl X x := by rfl) (hdb : (x == ("__debug__" : Str)) = false := by decide) :
    JS X G C μ μ' (.Try body [.ExceptHandler (some (.Name x np)) (some n) (b₀ :: suite) pos'] [] [] pos) (mTry tags cn μh mb mh) := by
  obtain ⟨A, hm, hex⟩ := hc.ex
  refine ⟨_, ps_try_as (c := .ref A) (tb := fun W D σ H => ∀ pn xe, Takes (X.tr pn xe) W → PassesOwn (model X.prog X.w) X.A X.env xe → ∃ t, PSs (X.tr pn xe) body t ∧ t D σ H)
    (ts := fun a cls d D σ H => ∀ oe pn, Zc cls d oe → (∃ vs, oe.data = .fields vs) → ∃ t, PSs (X.suite a ((a, oe) :: pn)) (b₀ :: suite) t ∧ t D σ H) hs hf hN hi hln ⟨hg, hdb, .inl hm⟩ tk
    (fun W pn xe tk po => ⟨fun pins s σ H D I h => let ⟨t, p, q⟩ := h pn xe tk po; p.run pins s σ H D I q⟩)
    (fun a oe cls d pn hz hd => ⟨fun pins s σ H D I h => let ⟨t, p, q⟩ := h oe pn hz hd; p.run pins s σ H D I q⟩), fun F S H σ ρ h D k pn xe tk2 po => ?_⟩
  obtain ⟨t, p, q⟩ := (hb _ pn xe tk2 po).ex
  refine ⟨t, p, q F S H σ ρ h D ?_⟩
  unfold mTry at k
  cases q1 : mb ρ with
  | nx ρ1 => rw [q1] at k; exact k
  | brk ρ1 => rw [q1] at k; exact k
  | cnt ρ1 => rw [q1] at k; exact k
  | ret d ρ1 => rw [q1] at k; exact fun v μ1 σ' S' H' l e h' => k v μ1 σ' S' H' (modesLe_trans wx l) e h'
  | bad => rw [q1] at k; exact k
  | exc e ρ1 =>
    rw [q1] at k
    intro μ1 σ' c dct S' H' l ex h1 er
    simp only at k
    split at k
    · rename_i ht
      have ht' : e.tag ∈ tags := by simpa using ht
      obtain ⟨rfl, hd⟩ := er
      refine ⟨errIs e cn, hex e ht', fun eq a na oe pn hz hdd => ?_, fun eq => ?_⟩
      · rw [if_pos eq] at k
        obtain ⟨t2, p2, s2⟩ := (hsu e a oe dct pn ht' hz (fun nl => by cases e <;> first | exact hd | exact absurd rfl (nl _)) hdd).ex
        refine ⟨t2, p2, s2 F S' H' _ _ ((h1.weak l).sete hx) _ ?_⟩
        have k2 := OutOk.mono ex k
        cases q2 : mh e (keep μh ρ1) with
        | nx ρ2 => rw [q2] at k2; exact fun σ2 S2 H2 e2 h2 => k2 _ S2 H2 e2 (h2.gone h')
        | brk ρ2 => rw [q2] at k2; exact fun σ2 S2 H2 e2 h2 => k2 _ S2 H2 e2 (h2.gone hbk)
        | cnt ρ2 => rw [q2] at k2; exact fun σ2 S2 H2 e2 h2 => k2 _ S2 H2 e2 (h2.gone hct)
        | ret d ρ2 => rw [q2] at k2; exact k2
        | exc d ρ2 => rw [q2] at k2; exact k2
        | bad => rw [q2] at k2; exact k2
      · rw [if_neg (by simp [eq])] at k
        exact k μ1 σ' _ dct S' H' (modesLe_trans wx l) ex h1 ⟨rfl, hd⟩
    · exact k.elim
theorem js_tryOnly {x : Str} {cn : Nat} {tags : List Nat} {body suite : List Stmt} {b₀ : Stmt} {np pos pos' : Pos} {mb : MS} {mh : MS} (μh : List Mode) (hc : CatchO X.K X.mg G x cn tags) (tk : Takes X (fun c d σ H => C.E σ c d H))
    (hb : ∀ (W : WX) (pn : List (Addr × Obj)) (xe : Value → Shared → Prop), Takes (X.tr pn xe) W → PassesOwn (model X.prog X.w) X.A X.env xe → JSs (X.tr pn xe) G (C.try W μh) μ μ' body mb)
    (hsu : ∀ (a : Addr) (oe : Obj) (pn : List (Addr × Obj)), JSs (X.suite a ((a, oe) :: pn)) G C μh μ' (b₀ :: suite) mh)
    (wx : ModesLe C.μx μh = true := by rfl)
    (hs : X.stack = X.env :: X.outer := by rfl) (hf : X.env.frame = some X.env.locals := by rfl) (hg : Gl X x := by rfl) (hdb : (x == ("__debug__" : Str)) = false := by decide) :
    JS X G C μ μ' (.Try body [.ExceptHandler (some (.Name x np)) none (b₀ :: suite) pos'] [] [] pos) (mTry tags cn μh mb fun _ => mh) := by
  obtain ⟨A, hm, hex⟩ := hc.ex
  refine ⟨_, ps_try_only (c := .ref A) (tb := fun W D σ H => ∀ pn xe, Takes (X.tr pn xe) W → PassesOwn (model X.prog X.w) X.A X.env xe → ∃ t, PSs (X.tr pn xe) body t ∧ t D σ H)
    (ts := fun a cls d D σ H => ∀ oe pn, ∃ t, PSs (X.suite a ((a, oe) :: pn)) (b₀ :: suite) t ∧ t D σ H) hs hf ⟨hg, hdb, .inl hm⟩ tk
    (fun W pn xe tk po => ⟨fun pins s σ H D I h => let ⟨t, p, q⟩ := h pn xe tk po; p.run pins s σ H D I q⟩)
    (fun a oe cls d pn hz hd => ⟨fun pins s σ H D I h => let ⟨t, p, q⟩ := h oe pn; p.run pins s σ H D I q⟩), fun F S H σ ρ h D k pn xe tk2 po => ?_⟩
  obtain ⟨t, p, q⟩ := (hb _ pn xe tk2 po).ex
  refine ⟨t, p, q F S H σ ρ h D ?_⟩
  unfold mTry at k
  cases q1 : mb ρ with
  | nx ρ1 => rw [q1] at k; exact k
  | brk ρ1 => rw [q1] at k; exact k
  | cnt ρ1 => rw [q1] at k; exact k
  | ret d ρ1 => rw [q1] at k; exact fun v μ1 σ' S' H' l e h' => k v μ1 σ' S' H' (modesLe_trans wx l) e h'
  | bad => rw [q1] at k; exact k
  | exc e ρ1 =>
    rw [q1] at k
    intro μ1 σ' c dct S' H' l ex h1 er
    simp only at k
    split at k
    · rename_i ht
      have ht' : e.tag ∈ tags := by simpa using ht
      obtain ⟨rfl, hd⟩ := er
      refine ⟨errIs e cn, hex e ht', fun eq a na oe pn => ?_, fun eq => ?_⟩
      · rw [if_pos eq] at k
        obtain ⟨t2, p2, s2⟩ := (hsu a oe pn).ex
        exact ⟨t2, p2, s2 F S' H' _ _ (h1.weak l) _ (OutOk.mono ex k)⟩
      · rw [if_neg (by simp [eq])] at k
        exact k μ1 σ' _ dct S' H' (modesLe_trans wx l) ex h1 ⟨rfl, hd⟩
    · exact k.elim
/-! ### isinstance of a caught error -/
structure ExcCs (K : PySem.W.Frag) (G : Cl) (tags : List Nat) : Prop where
  ex : ∀ t ∈ tags, ExcC K (G.eA t)
theorem je_isE {y n x : Str} {i cn : Nat} {a : Addr} {oe : Obj} {pn : List (Addr × Obj)} {e : Err} {tags : List Nat} {p p1 p2 pos : Pos} (hI : IsO X.K X.mg G x cn tags) (hC : ExcCs X.K G tags) (ht : e.tag ∈ tags) (hz : Zc (.ref (G.eA e.tag)) none oe) (hf : ∃ vs, oe.data = .fields vs) (hy : X.mg y = none)
    (hm : μ[i]? = some (.e a)) (hN : X.N[i]? = some n := by rfl) (hx : Vis X.env.scope n := by first | exact Or.inl rfl | exact Or.inr (Or.inl rfl) | exact Or.inr (Or.inr rfl)) (hd : (n == ("__debug__" : Str)) = false := by decide) (hcd : (n == ("__classdict__" : Str)) = false := by decide)
    (hgy : Gl X y := by rfl) (hg : Gl X x := by rfl) (hvy : bootBuiltins y = some (.builtin "isinstance") := by decide +kernel) (hny : y ≠ "__name__" := by decide) (hdy : (y == ("__debug__" : Str)) = false := by decide) (hdb : (x == ("__debug__" : Str)) = false := by decide)
    (h1 : starEach [.Name n p1, .Name x p2] X.env = (false, eval (.Name n p1) X.env) :: starEach [.Name x p2] X.env := by rfl) (h2 : starEach [.Name x p2] X.env = (false, eval (.Name x p2) X.env) :: starEach [] X.env := by rfl) (hpl : (backTo pos (starEach [.Name x p2] X.env)).any (·.1) = false := by rfl) :
    JE (X.suite a ((a, oe) :: pn)) G E .d μ (.Call (.Name y p) [.Name n p1, .Name x p2] [] pos) (mC (.bl (errIs e cn))) := by
  obtain ⟨A, hmg, hk⟩ := hI.ex
  refine ⟨_, pe_callB (X := X.suite a ((a, oe) :: pn)) (call_isE (hC.ex _ ht) hz hf) hgy hy hvy (pa_cons (pe_var hN hx hd hcd) (pa_cons (pe_glob (v := .ref A) hg hmg rfl hdb) pa_nil h2) h1) hny hdy h1 hpl, fun F S H σ ρ h Q k => ?_⟩
  exact ⟨_, h.evar hm, _, _, _, rfl, fun u z => z, hk e ht, k _ S H (Evl.Ex.refl S) (h.push (.bl _))⟩
theorem je_isEB {y n x : Str} {T : String} {i cn : Nat} {a : Addr} {oe : Obj} {pn : List (Addr × Obj)} {e : Err} {tags : List Nat} {p p1 p2 pos : Pos} (hI : IsB X.K G T cn tags) (hC : ExcCs X.K G tags) (ht : e.tag ∈ tags) (hz : Zc (.ref (G.eA e.tag)) none oe) (hf : ∃ vs, oe.data = .fields vs) (hy : X.mg y = none) (hx0 : X.mg x = none)
    (hm : μ[i]? = some (.e a)) (hN : X.N[i]? = some n := by rfl) (hx : Vis X.env.scope n := by first | exact Or.inl rfl | exact Or.inr (Or.inl rfl) | exact Or.inr (Or.inr rfl)) (hd : (n == ("__debug__" : Str)) = false := by decide) (hcd : (n == ("__classdict__" : Str)) = false := by decide)
    (hgy : Gl X y := by rfl) (hg : Gl X x := by rfl) (hvy : bootBuiltins y = some (.builtin "isinstance") := by decide +kernel) (hv : bootBuiltins x = some (.type T) := by decide +kernel) (hny : y ≠ "__name__" := by decide) (hn : x ≠ "__name__" := by decide) (hdy : (y == ("__debug__" : Str)) = false := by decide) (hdb : (x == ("__debug__" : Str)) = false := by decide)
    (h1 : starEach [.Name n p1, .Name x p2] X.env = (false, eval (.Name n p1) X.env) :: starEach [.Name x p2] X.env := by rfl) (h2 : starEach [.Name x p2] X.env = (false, eval (.Name x p2) X.env) :: starEach [] X.env := by rfl) (hpl : (backTo pos (starEach [.Name x p2] X.env)).any (·.1) = false := by rfl) :
    JE (X.suite a ((a, oe) :: pn)) G E .d μ (.Call (.Name y p) [.Name n p1, .Name x p2] [] pos) (mC (.bl (errIs e cn))) := by
  refine ⟨_, pe_callB (X := X.suite a ((a, oe) :: pn)) (call_isE (hC.ex _ ht) hz hf) hgy hy hvy (pa_cons (pe_var hN hx hd hcd) (pa_cons (pe_bltn (v := .ty T) hg hx0 hv rfl hn hdb) pa_nil h2) h1) hny hdy h1 hpl, fun F S H σ ρ h Q k => ?_⟩
  exact ⟨_, h.evar hm, _, _, _, rfl, fun u z => z, hI.ex e ht, k _ S H (Evl.Ex.refl S) (h.push (.bl _))⟩
theorem zc0 {e : Err} {d : Option Addr} {oe : Obj} {c : Value} {tags : List Nat} (ht : e.tag ∈ tags) (h7 : tags.contains 7 = false) (hz : Zc c d oe) (hn : (∀ m, e ≠ .line m) → d = none) : Zc c none oe := by
  have : d = none := hn fun m z => by
    subst z
    have h2 : (7 : Nat) ∈ tags := ht
    simp at h7
    exact h7 h2
  subst this
  exact hz
/-! ### a def with one default, called with both values or with one -/
theorem defD_mk0 {x qual : Str} {params : Arguments} {body : List Stmt} {scope : Scope} {dvs : List V} {f : Addr} {fd : FuncData} {ps : List Str} {lv n : Nat} {rm : Mode} {m : MP} (o : FnOk P w K mg base (L2.CX P w) lv f fd ps (spP K G n rm m)) (hm : mg x = some (.ref f)) (hk : PySem.W.keepIn K (.ref f) = true) (F : FunD K x qual params body scope dvs [] f fd) (hd : dvs ≠ []) (hn : ps.length + (dvs.length - dvs.length) = ps.length)
    (h : ∀ (T : Addr) (kV doc pm : Value) (an : Option Addr) (cdv ct : Value) (us its : List Value), us.length = ps.length → its.length = dvs.length →
      ∃ k, bindArgs (PySem.W.fnOf x qual params body scope (.ref T) kV doc pm an cdv ct) ⟨us, []⟩ = seqItems? (.ref T) >>= k ∧ k (some its.toArray) = pure (ps.zip (us ++ its.drop dvs.length))) : DefO P w K mg base G x n rm m lv [] := by
  obtain ⟨ds, q1, q2⟩ := F.binds1 ps.length dvs.length hd hn h
  rw [List.drop_length] at q1
  cases q1
  exact ⟨_, _, _, _, [], o, hm, hk, q2, .nil, fun _ => .nil⟩
theorem defD_mk1 {x qual : Str} {params : Arguments} {body : List Stmt} {scope : Scope} {dvs : List V} {f : Addr} {fd : FuncData} {ps : List Str} {lv n : Nat} {rm : Mode} {m : MP} {dd : List D} (o : FnOk P w K mg base (L2.CX P w) lv f fd ps (spP K G n rm m)) (hm : mg x = some (.ref f)) (hk : PySem.W.keepIn K (.ref f) = true) (F : FunD K x qual params body scope dvs [] f fd) (j : Nat) (hj : j + (dvs.length - 0) = ps.length) (hd : dvs ≠ [])
    (h : ∀ (T : Addr) (kV doc pm : Value) (an : Option Addr) (cdv ct : Value) (us its : List Value), us.length = j → its.length = dvs.length →
      ∃ k, bindArgs (PySem.W.fnOf x qual params body scope (.ref T) kV doc pm an cdv ct) ⟨us, []⟩ = seqItems? (.ref T) >>= k ∧ k (some its.toArray) = pure (ps.zip (us ++ its.drop 0)))
    (hq : ∀ S, DatL K G S dvs dd) : DefO P w K mg base G x n rm m lv dd := by
  obtain ⟨ds, q1, q2⟩ := F.binds1 j 0 hd hj h
  exact ⟨_, _, _, _, dvs, o, hm, hk, q2, q1, hq⟩
theorem kit_ref {A : Addr} {t : Value} {b : Bool} (hdct : PySem.W.hasDictIn K A = true) (ht : PySem.W.typeIn K (.ref A) = some (.type "type")) (h5 : PySem.W.subIn K (.ref A) (.ref A) = some true) (h4 : PySem.W.subIn K t (.ref A) = some b) : PySem.W.kitOne K t (.ref A) = some b := by
  obtain ⟨cd, hc, _⟩ := PySem.W.any_some hdct
  unfold PySem.W.kitOne
  split
  · rename_i h
    have e : t = .ref A := beq_iff_eq.mp h
    subst e
    rw [← h4, h5]
  · show (if ((PySem.W.clsIn K A).isSome && PySem.W.typeIn K (.ref A) == some (.type "type")) = true then PySem.W.subIn K t (.ref A) else none) = some b
    rw [hc, ht]
    exact h4
theorem kit_type {A : Addr} {T : String} {b : Bool} (hm : PySem.W.kitMeta T = true) (h : PySem.W.subIn K (.ref A) (.type T) = some b) : PySem.W.kitOne K (.ref A) (.type T) = some b := by
  unfold PySem.W.kitOne
  rw [if_neg (fun z => by have := beq_iff_eq.mp z; cases this)]
  show (if PySem.W.kitMeta T = true then PySem.W.subIn K (.ref A) (.type T) else none) = some b
  rw [if_pos hm]
  exact h
end
end MR

set_option Elab.async false
set_option linter.all false
set_option maxRecDepth 100000
set_option maxHeartbeats 1000000
/-! MB8: an empty dict, zip, enumerate, walks over texts. -/
namespace MR
open PySem L2 PySem.Spec PyProof.Rows
section
variable {K : PySem.W.Frag} {G : Cl} {E : XS} {C : SC} {μ μ' μ1 : List Mode} {r : Mode} {X : Cx} {F : Fo} {S H : Hp} {σ : L2.St} {ρ : List D}
/-- relabel asks its environment for the scope alone -/
def relabelS (scope sc : Scope) : Scope := { scope with names := scope.names.map fun (n, k) => if (k == .free && sc.kind == .function && sc.names.lookup n == some .cell) then (n, .cell) else (n, k) }
theorem relabel_eq {scope : Scope} {env : Env} : relabel scope env = relabelS scope env.scope := rfl
theorem je_dict0 {pos : Pos} : JE X G E .d μ (.Dict [] [] pos) (mC (.dK [])) := by
  refine ⟨_, pe_dnewK, fun F S H σ ρ h Q k p hp => ?_⟩
  have hS : S p = none := ex_none h.sh hp
  have e1 : Ex S (upd S p (.dK [])) := Evl.Ex.new hS
  refine k (.ref p) (upd S p (.dK [])) _ e1 ((h.grow e1 (fun a o ha => ?_) (fun a o q _ => Evl.Ex.new hp a o q) fun a o ha _ hs => ?_).push (Dat.dK (ks := []) (vs := []) (ds := []) upd_same rfl .nil))
  · by_cases z : a = p
    · subst z
      rw [upd_same] at ha ⊢
      exact ha
    · rw [upd_ne z] at ha ⊢
      exact h.sh _ _ ha
  · rw [upd_ne (ne_of_none ha hp)]
    exact hs
theorem dat_items {v : V} {d : D} {ds : List D} (h : Dat K G S v d) (e : itemsOf d = some ds) : ∃ a vs, v = .ref a ∧ SqL K S a vs ∧ DatL K G S vs ds := by
  cases h with
  | lst a1 a2 => cases e; exact ⟨_, _, rfl, .inl (.inl a1), a2⟩
  | scr a1 => cases e; exact ⟨_, _, rfl, a1, datL_ints _⟩
  | _ => cases e
def zip2 : List D → Option (List D)
  | [x, y] => match itemsOf x, itemsOf y with
    | some a, some b => some (List.zipWith (fun u v => .tup [u, v]) a b)
    | _, _ => none
  | _ => none
theorem it_zip {a b : Addr} {xs ys : List V} {ds es : List D} (h1 : SqL K S a xs) (h2 : SqL K S b ys) (q1 : DatL K G S xs ds) (q2 : DatL K G S ys es) : ItOk K G F S (Itz K a b) (List.zipWith (fun u v => .tup [u, v]) ds es) := by
  have w := walk_zip (K := K) (a := a) (b := b) (xs := xs) (ys := ys) rfl
  have l : (List.zipWith (fun u v => D.tup [u, v]) ds es).length = min xs.length ys.length := by rw [List.length_zipWith, q1.length, q2.length]
  refine ⟨fun i H hi e _ => w.goes i H (by rw [← l]; exact hi) ⟨Evl.ex_l e h1, Evl.ex_l e h2⟩, fun H e _ => by rw [l]; exact w.stops H ⟨Evl.ex_l e h1, Evl.ex_l e h2⟩, fun i H x H' d hd e _ y => .inr ?_⟩
  have hi : i < min xs.length ys.length := by rw [← l]; exact (List.getElem?_eq_some_iff.mp hd).1
  obtain ⟨T, x1, y1, z1, z2, z3, z4, z5⟩ := w.yields i H x H' hi ⟨Evl.ex_l e h1, Evl.ex_l e h2⟩ y
  obtain ⟨d1, e1, r1⟩ := q1.getV z4
  obtain ⟨d2, e2, r2⟩ := q2.getV z5
  rw [List.getElem?_zipWith, e1, e2] at hd
  cases hd
  exact ⟨T, [x1, y1], [d1, d2], z1, z2, z3, rfl, .cons r1 (.cons r2 .nil)⟩
theorem ji_zip2 {e e2 : Expr} {a : MA} {p pos tpos : Pos} {elts : List Expr} {kk : Nat} (hm : X.mg "zip" = none) (he : JA X G E μ [e, e2] a) (hg : Gl X "zip" := by rfl) (hs : starEach [e, e2] X.env = (false, eval e X.env) :: starEach [e2] X.env := by rfl) (hpl : (backTo pos (starEach [e2] X.env)).any (·.1) = false := by rfl) :
    JI X G E μ (.Tuple elts kk tpos) (.Call (.Name "zip" p) [e, e2] [] pos) (mRng zip2 a) := by
  obtain ⟨t1, p1, s1⟩ := he.ex
  refine ⟨_, pi_zip hg hm p1 hs hpl, fun F S H σ ρ h R k => s1 F S H σ ρ h _ ?_⟩
  unfold mRng at k
  cases q : a ρ with
  | ok ds ρ1 =>
    rw [q, bind_ok] at k
    intro vs S1 H1 e1 h1 q1
    match ds, q1, k with
    | [x, y], .cons q2 (.cons q3 .nil), k =>
      cases z1 : itemsOf x with
      | none =>
        have k' : IOk X.K G E μ F S σ R (RR.of (match itemsOf x, itemsOf y with | some a, some b => some (List.zipWith (fun u v => .tup [u, v]) a b) | _, _ => none) ρ1) := k
        rw [z1] at k'
        exact k'.elim
      | some as =>
        cases z2 : itemsOf y with
        | none =>
          have k' : IOk X.K G E μ F S σ R (RR.of (match itemsOf x, itemsOf y with | some a, some b => some (List.zipWith (fun u v => .tup [u, v]) a b) | _, _ => none) ρ1) := k
          rw [z1, z2] at k'
          exact k'.elim
        | some bs =>
          have k' : IOk X.K G E μ F S σ R (RR.of (match itemsOf x, itemsOf y with | some a, some b => some (List.zipWith (fun u v => .tup [u, v]) a b) | _, _ => none) ρ1) := k
          rw [z1, z2] at k'
          obtain ⟨a1, v1, rfl, g1, g2⟩ := dat_items q2 z1
          obtain ⟨a2, v2, rfl, g3, g4⟩ := dat_items q3 z2
          exact ⟨a1, a2, _, _, rfl, Evl.ex_l h1.sh g1, Evl.ex_l h1.sh g3, k' _ S1 H1 e1 h1 (it_zip g1 g3 g2 g4)⟩
  | exc e1 ρ1 => rw [q] at k; exact k
  | bad => rw [q] at k; exact k
def enum1 : List D → Option (List D)
  | [x] => (itemsOf x).map fun a => a.mapIdx fun i d => .tup [.int (i : Nat), d]
  | _ => none
theorem it_enum {a : Addr} {xs : List V} {ds : List D} (h1 : SqL K S a xs) (q1 : DatL K G S xs ds) : ItOk K G F S (Ite K a) (ds.mapIdx fun i d => .tup [.int (i : Nat), d]) := by
  have w := walk_enum (K := K) (a := a) (xs := xs)
  have l : (ds.mapIdx fun i d => D.tup [.int (i : Nat), d]).length = xs.length := by rw [List.length_mapIdx, q1.length]
  refine ⟨fun i H hi e _ => w.goes i H (by rw [← l]; exact hi) (Evl.ex_l e h1), fun H e _ => by rw [l]; exact w.stops H (Evl.ex_l e h1), fun i H x H' d hd e _ y => .inr ?_⟩
  have hi : i < xs.length := by rw [← l]; exact (List.getElem?_eq_some_iff.mp hd).1
  obtain ⟨T, x1, y1, z1, z2, z3, z4, z5⟩ := w.yields i H x H' hi (Evl.ex_l e h1) y
  cases z4
  obtain ⟨d2, e2, r2⟩ := q1.getV z5
  rw [List.getElem?_mapIdx, e2] at hd
  cases hd
  exact ⟨T, _, [.int (i : Nat), d2], z1, z2, z3, rfl, .cons (.int _) (.cons r2 .nil)⟩
theorem ji_enum {e : Expr} {a : MA} {p pos tpos : Pos} {elts : List Expr} {kk : Nat} (hm : X.mg "enumerate" = none) (he : JA X G E μ [e] a) (hg : Gl X "enumerate" := by rfl) (hs : starEach [e] X.env = [(false, eval e X.env)] := by rfl) :
    JI X G E μ (.Tuple elts kk tpos) (.Call (.Name "enumerate" p) [e] [] pos) (mRng enum1 a) := by
  obtain ⟨t1, p1, s1⟩ := he.ex
  refine ⟨_, pi_enum hg hm p1 hs, fun F S H σ ρ h R k => s1 F S H σ ρ h _ ?_⟩
  unfold mRng at k
  cases q : a ρ with
  | ok ds ρ1 =>
    rw [q, bind_ok] at k
    intro vs S1 H1 e1 h1 q1
    match ds, q1, k with
    | [x], .cons q2 .nil, k =>
      have k' : IOk X.K G E μ F S σ R (RR.of ((itemsOf x).map fun a => a.mapIdx fun i d => .tup [.int (i : Nat), d]) ρ1) := k
      cases z1 : itemsOf x with
      | none => rw [z1] at k'; exact k'.elim
      | some as =>
        rw [z1] at k'
        obtain ⟨a1, v1, rfl, g1, g2⟩ := dat_items q2 z1
        exact ⟨a1, _, rfl, Evl.ex_l h1.sh g1, k' _ S1 H1 e1 h1 (it_enum g1 g2)⟩
  | exc e1 ρ1 => rw [q] at k; exact k
  | bad => rw [q] at k; exact k
end
end MR

set_option Elab.async false
set_option linter.all false
set_option maxRecDepth 100000
set_option maxHeartbeats 1000000
/-! MB9: slices, stores into owned lists, is True. -/
namespace MR
open PySem L2 PySem.Spec PyProof.Rows
/-- a list's length, as a measure -/
def D.size : D → Nat
  | .lst ds => ds.length
  | _ => 0
section
variable {K : PySem.W.Frag} {G : Cl} {E : XS} {C : SC} {μ μ' μ1 : List Mode} {r : Mode} {X : Cx} {F : Fo} {S H : Hp} {σ : L2.St} {ρ : List D}
/-! ### slices -/
abbrev MO := List D → RR (Option Int)
def OOk (K : PySem.W.Frag) (G : Cl) (E : XS) (μ : List Mode) (F : Fo) (S : Hp) (σ : L2.St) (Q : Option Int → Hp → Prop) : RR (Option Int) → Prop
  | .ok o ρ' => ∀ S' H', Ex S S' → EnvOk K G F S' H' μ σ ρ' → Q o H'
  | .exc e ρ' => XOk K G E μ F S σ e ρ'
  | .bad => False
theorem OOk.mono {S' : Hp} {Q : Option Int → Hp → Prop} (x : Ex S S') : ∀ {o : RR (Option Int)}, OOk K G E μ F S σ Q o → OOk K G E μ F S' σ Q o
  | .ok _ _, k => fun S2 H2 e2 h2 => k S2 H2 (x.trans e2) h2
  | .exc _ _, k => XOk.mono x k
  | .bad, k => k
structure JO (X : Cx) (G : Cl) (E : XS) (μ : List Mode) (e : Option Expr) (m : MO) : Prop where
  ex : ∃ t, PO X e t ∧ ∀ F S H σ ρ, EnvOk X.K G F S H μ σ ρ → ∀ Q, OOk X.K G E μ F S σ Q (m ρ) → t σ H Q
def mNoPart : MO := fun ρ => .ok none ρ
def asInt : D → Option (Option Int)
  | .int i => some (some i)
  | _ => none
def mPart (a : ME) : MO := fun ρ => (a ρ).bind fun d ρ1 => RR.of (asInt d) ρ1
theorem jo_none : JO X G E μ none mNoPart := ⟨_, po_none, fun F S H σ ρ h Q k => k S H (Evl.Ex.refl S) h⟩
theorem jo_some {e : Expr} {a : ME} (he : JE X G E .d μ e a) : JO X G E μ (some e) (mPart a) := by
  obtain ⟨t1, p1, s1⟩ := he.ex
  refine ⟨_, po_some p1, fun F S H σ ρ h Q k => s1 F S H σ ρ h _ ?_⟩
  unfold mPart at k
  cases q : a ρ with
  | ok d ρ1 =>
    rw [q, bind_ok] at k
    intro v S1 H1 e1 h1
    have hd := h1.head
    cases hd with
    | int i => exact ⟨i, rfl, k S1 H1 e1 h1.tail⟩
    | _ => exact k.elim
  | exc e ρ1 => rw [q] at k; exact k
  | bad => rw [q] at k; exact k
def cutD {α : Type} (xs : List α) (lo hi : Option Int) : List α := (xs.drop (HT.sIx xs.length 0 lo)).take (HT.sIx xs.length xs.length hi - HT.sIx xs.length 0 lo)
theorem cut_datL {vs : List V} {ds : List D} (h : DatL K G S vs ds) (lo hi : Option Int) : DatL K G S (cutV vs lo hi) (cutD ds lo hi) := by
  unfold cutV cutD
  rw [h.length]
  exact (h.drop _).take _
def fSl (lo hi : Option Int) : D → Option D
  | .lst ds => some (.lst (cutD ds lo hi))
  | .scr ns => some (.lst ((cutD ns lo hi).map .int))
  | .tup ds => some (.tup (cutD ds lo hi))
  | .str z => if z.length ≤ sizeLine then some (.str (cutS z lo hi)) else none
  | _ => none
def fSlO (lo hi : Option Int) : D → Option D
  | .lst ds => some (.lst (cutD ds lo hi))
  | .scr ns => some (.lst ((cutD ns lo hi).map .int))
  | _ => none
def mSl (f : Option Int → Option Int → D → Option D) (a : ME) (lo hi : MO) : ME := fun ρ => (a ρ).bind fun d ρ1 => (lo ρ1).bind fun l ρ2 => (hi ρ2).bind fun u ρ3 => RR.of (f l u d) ρ3
theorem cut_ints (ns : List Int) (lo hi : Option Int) : cutV (ns.map V.int) lo hi = (cutD ns lo hi).map V.int := by
  unfold cutV cutD
  rw [List.length_map, List.map_take, List.map_drop]
def rSlAll (K : PySem.W.Frag) : V → Option Int → Option Int → Hp → VK → Prop := fun x lo hi H Q => rSlL K x lo hi H Q ∨ (rSlA K x lo hi H Q ∨ rSlS x lo hi H Q)
theorem sl_sound {v : V} {d z : D} {lo hi : Option Int} {Q : VK} (h : EnvOk K G F S H μ σ ρ) (q : Dat K G S v d) (e : fSl lo hi d = some z) (k : RVal K G μ F S σ ρ .d z Q) : rSlAll K v lo hi H Q := by
  cases q with
  | lst a1 a2 =>
    cases e
    exact .inl ⟨_, _, rfl, .inl (.inl (h.sh _ _ a1)), fun p hp => RVal.lst k h (cut_datL a2 lo hi) hp⟩
  | scr a1 =>
    cases e
    exact .inl ⟨_, _, rfl, Evl.ex_l h.sh a1, fun p hp => by rw [cut_ints]; exact RVal.lst k h (datL_ints _) hp⟩
  | tup a1 a2 =>
    cases e
    refine .inr (.inl ⟨_, _, rfl, Evl.ex_t h.sh a1, fun w => ?_, fun _ p hp => RVal.tup k h (cut_datL a2 lo hi) hp⟩)
    rename_i a vs ds
    have e2 : cutD ds lo hi = ds := by
      have w1 := w.1
      have w2 := w.2
      rw [a2.length] at w1 w2
      unfold cutD
      rw [w1, w2, List.drop_zero, Nat.sub_zero, List.take_length]
    rw [e2] at k
    exact k _ S H (Evl.Ex.refl S) (h.push (.tup a1 a2))
  | str x =>
    have e' : (if x.length ≤ sizeLine then some (D.str (cutS x lo hi)) else none) = some z := e
    split at e'
    · rename_i hl
      cases e'
      exact .inr (.inr ⟨x, rfl, hl, k _ S H (Evl.Ex.refl S) (h.push (.str _))⟩)
    · cases e'
  | _ => cases e
theorem je_slice {e : Expr} {lo hi : Option Expr} {a : ME} {ml mh : MO} {p2 pos : Pos} (he : JE X G E .d μ e a) (hl : JO X G E μ lo ml) (hh : JO X G E μ hi mh) : JE X G E .d μ (.Subscript e (.Slice lo hi none p2) pos) (mSl fSl a ml mh) := by
  obtain ⟨t1, p1, s1⟩ := he.ex
  obtain ⟨t2, p2', s2⟩ := hl.ex
  obtain ⟨t3, p3, s3⟩ := hh.ex
  refine ⟨_, pe_slice (r := rSlAll X.K) (sl_list.or (sl_tupA.or sl_str)) p1 p2' p3, fun F S H σ ρ h Q k => s1 F S H σ ρ h _ ?_⟩
  unfold mSl at k
  cases q : a ρ with
  | ok d ρ1 =>
    rw [q, bind_ok] at k
    intro v S1 H1 e1 h1
    have hd := h1.head
    refine s2 F S1 H1 σ ρ1 h1.tail _ ?_
    have k1 := EOk.mono e1 k
    cases q2 : ml ρ1 with
    | ok l ρ2 =>
      rw [q2, bind_ok] at k1
      intro S2 H2 e2 h2
      refine s3 F S2 H2 σ ρ2 h2 _ ?_
      have k2 := EOk.mono e2 k1
      cases q3 : mh ρ2 with
      | ok u ρ3 =>
        rw [q3, bind_ok] at k2
        intro S3 H3 e3 h3
        have k3 := EOk.mono e3 k2
        cases q4 : fSl l u d with
        | none => rw [q4] at k3; exact k3.elim
        | some z => rw [q4] at k3; exact sl_sound h3 (hd.mono (e2.trans e3)) q4 k3
      | exc e4 ρ3 => rw [q3] at k2; exact k2
      | bad => rw [q3] at k2; exact k2
    | exc e4 ρ3 => rw [q2] at k1; exact k1
    | bad => rw [q2] at k1; exact k1
  | exc e1 ρ1 => rw [q] at k; exact k
  | bad => rw [q] at k; exact k
theorem je_sliceO {e : Expr} {lo hi : Option Expr} {a : ME} {ml mh : MO} {p2 pos : Pos} (he : JE X G E .d μ e a) (hl : JO X G E μ lo ml) (hh : JO X G E μ hi mh) : JE X G E .o μ (.Subscript e (.Slice lo hi none p2) pos) (mSl fSlO a ml mh) := by
  obtain ⟨t1, p1, s1⟩ := he.ex
  obtain ⟨t2, p2', s2⟩ := hl.ex
  obtain ⟨t3, p3, s3⟩ := hh.ex
  refine ⟨_, pe_slice (r := rSlL X.K) sl_list p1 p2' p3, fun F S H σ ρ h Q k => s1 F S H σ ρ h _ ?_⟩
  unfold mSl at k
  cases q : a ρ with
  | ok d ρ1 =>
    rw [q, bind_ok] at k
    intro v S1 H1 e1 h1
    have hd := h1.head
    refine s2 F S1 H1 σ ρ1 h1.tail _ ?_
    have k1 := EOk.mono e1 k
    cases q2 : ml ρ1 with
    | ok l ρ2 =>
      rw [q2, bind_ok] at k1
      intro S2 H2 e2 h2
      refine s3 F S2 H2 σ ρ2 h2 _ ?_
      have k2 := EOk.mono e2 k1
      cases q3 : mh ρ2 with
      | ok u ρ3 =>
        rw [q3, bind_ok] at k2
        intro S3 H3 e3 h3
        have k3 := EOk.mono e3 k2
        have hd3 := hd.mono (e2.trans e3)
        cases hd3 with
        | lst a1 a2 => exact ⟨_, _, rfl, .inl (.inl (h3.sh _ _ a1)), fun p hp => RVal.lstO k3 h3 (cut_datL a2 l u) hp⟩
        | scr a1 => exact ⟨_, _, rfl, Evl.ex_l h3.sh a1, fun p hp => by rw [cut_ints]; exact RVal.lstO k3 h3 (datL_ints _) hp⟩
        | _ => exact k3.elim
      | exc e4 ρ3 => rw [q3] at k2; exact k2
      | bad => rw [q3] at k2; exact k2
    | exc e4 ρ3 => rw [q2] at k1; exact k1
    | bad => rw [q2] at k1; exact k1
  | exc e1 ρ1 => rw [q] at k; exact k
  | bad => rw [q] at k; exact k
/-! ### x[i] = v, x an owned list -/
def setD (ds : List D) (i : Int) (d : D) : Option (List D) := (ixN ds.length i).map fun j => ds.set j d
def bSetO (i : Nat) (a : ME) : MB := fun d ρ => match a ρ with
  | .ok (.int k) ρ1 => match lstAt i ρ1 with
    | some ds => (setD ds k d).map fun es => ρ1.set i (.lst es)
    | none => none
  | _ => none
theorem jg_setO {x : Str} {i : Nat} {e : Expr} {a : ME} {p pos : Pos} (he : JE X G (fun _ => E0) .d μ e a) (hm : μ[i]? = some .o := by rfl) (hN : X.N[i]? = some x := by rfl) (hx : Vis X.env.scope x := by first | exact Or.inl rfl | exact Or.inr (Or.inl rfl) | exact Or.inr (Or.inr rfl)) (hd : (x == ("__debug__" : Str)) = false := by decide) (hcd : (x == ("__classdict__" : Str)) = false := by decide)
    (ha : ∀ v, assign (.Subscript (.Name x p) e pos) X.env v = (do
      let ov ← holding [v] (eval (.Name x p) X.env)
      let iv ← holding [v, ov] (eval e X.env)
      standAt pos
      holding [v, ov, iv] (setItem ov iv v)
      release [v, ov, iv] []) := by intro _; rfl) : JG X G μ μ (.Subscript (.Name x p) e pos) (bSetO i a) := by
  obtain ⟨t1, p1, s1⟩ := he.ex
  refine ⟨_, pg_sub (pe_var hN hx hd hcd) p1 set_list ha, fun F S H σ ρ v d ρ' h q z Q k => ?_⟩
  obtain ⟨p, q1, _⟩ := h.ovar hm
  refine ⟨_, q1, s1 F S H σ ρ h _ ?_⟩
  unfold bSetO at z
  cases q2 : a ρ with
  | ok y ρ1 =>
    rw [q2] at z
    cases y with
    | int kk =>
      dsimp only at z
      cases q3 : lstAt i ρ1 with
      | none => rw [q3] at z; cases z
      | some ds =>
        rw [q3] at z
        dsimp only at z
        cases q4 : setD ds kk d with
        | none => rw [q4] at z; cases z
        | some es =>
          rw [q4] at z
          cases z
          intro w S1 H1 e1 h1
          have hw := h1.head
          cases hw
          obtain ⟨vs, z1, z2⟩ := h1.tail.olst hm q1 q3
          unfold setD at q4
          cases q5 : ixN ds.length kk with
          | none => rw [q5] at q4; cases q4
          | some j =>
            rw [q5] at q4
            cases q4
            refine ⟨p, vs, kk, j, rfl, rfl, z1, by rw [z2.length]; exact q5, k _ S1 _ e1 (h1.tail.chO hm q1 (.lst upd_same (DatL.set (q.mono e1) j z2).ownL))⟩
    | _ => cases z
  | exc _ _ => rw [q2] at z; cases z
  | bad => rw [q2] at z; cases z
/-! ### is True -/
def fIsB : D → D → Option Bool
  | .bl a, .bl b => some (decide (a = b))
  | _, _ => none
def fNotB : D → D → Option Bool
  | .bl a, .bl b => some (!decide (a = b))
  | _, _ => none
theorem opb_isB {K : PySem.W.Frag} : OpB K G rIsB fIsB := by
  intro F S H μ σ ρ x y dx dy z e q1 q2 q3 Q k
  unfold fIsB at q3
  split at q3
  · cases q3
    cases q1
    cases q2
    exact ⟨_, _, rfl, rfl, k⟩
  · cases q3
theorem opb_notB {K : PySem.W.Frag} : OpB K G rNotB fNotB := by
  intro F S H μ σ ρ x y dx dy z e q1 q2 q3 Q k
  unfold fNotB at q3
  split at q3
  · cases q3
    cases q1
    cases q2
    exact ⟨_, _, rfl, rfl, k⟩
  · cases q3
end
end MR

set_option Elab.async false
set_option linter.all false
set_option maxRecDepth 100000
set_option maxHeartbeats 1000000
/-! MB10: repr of plain data (where no repr is under way). -/
namespace MR
open PySem L2 PySem.Spec PyProof.Rows
section
variable {K : PySem.W.Frag} {G : Cl} {E : XS} {C : SC} {μ μ' μ1 : List Mode} {r : Mode} {X : Cx} {F : Fo} {S H : Hp} {σ : L2.St} {ρ : List D}
def isRefD : D → Bool
  | .tup _ => true
  | .lst _ => true
  | _ => false
def fRepr (d : D) : Option D := if isRefD d = true then (toPy d).bind fun p => if p.showable = true ∧ p.hasDict = false ∧ p.depth ≤ 60 ∧ p.shown.length ≤ sizeLine then some (.str p.shown) else none else none
def rRepr (K : PySem.W.Frag) : List V → Hp → VK → Prop := fun xs H Q => ∃ (a : Addr) (p : PyData), xs = [.ref a] ∧ Dp K H (.ref a) p ∧ p.showable = true ∧ p.hasDict = false ∧ p.depth ≤ 60 ∧ p.shown.length ≤ sizeLine ∧ Q (.str p.shown) H
theorem call_reprD (hg : X.A.guards = some []) (hu : X.A.units + 64 < cLine) : CallR X (.builtin "repr") (rRepr X.K) := by
  intro pins s σ H xs us Q I rv h
  obtain ⟨a, p, rfl, dp, h1, h2, h3, h4, q⟩ := h
  cases rv with
  | cons r0 rr =>
    cases rr
    cases r0
    obtain ⟨as, rd⟩ := Dp.reads I p (.ref a) (.ref a) dp rfl
    refine repr_of_reads' rd h1 (fun z => by rw [h2] at z; cases z) hg (by omega) (fun _ _ z => z) (fun h' u tk hk => ⟨.str p.shown, H, I.kept (t' := tk) hk, ⟨_, rfl⟩, q⟩) h4
theorem je_repr {e : Expr} {a : ME} {y : Str} {p pos : Pos} (he : JE X G E .d μ e a) (hm : X.mg y = none) (hgd : X.A.guards = some []) (hu : X.A.units + 64 < cLine) (hg : Gl X y := by rfl) (hv : bootBuiltins y = some (.builtin "repr") := by decide +kernel) (hn : y ≠ "__name__" := by decide) (hdy : (y == ("__debug__" : Str)) = false := by decide)
    (h1 : starEach [e] X.env = (false, eval e X.env) :: starEach [] X.env := by rfl) (hpl : (backTo pos (starEach [] X.env)).any (·.1) = false := by rfl) : JE X G E .d μ (.Call (.Name y p) [e] [] pos) (mUn fRepr a) := by
  obtain ⟨t1, p1, s1⟩ := he.ex
  refine ⟨_, pe_callB (call_reprD hgd hu) hg hm hv (pa_cons p1 pa_nil h1) hn hdy h1 hpl, fun F S H σ ρ h Q k => s1 F S H σ ρ h _ ?_⟩
  unfold mUn at k
  cases q : a ρ with
  | ok x ρ1 =>
    rw [q, bind_ok] at k
    intro v S1 H1 e1 h1
    unfold fRepr at k
    split at k
    · rename_i hr
      cases q2 : toPy x with
      | none => rw [q2] at k; exact k.elim
      | some pd =>
        rw [q2] at k
        dsimp only [Option.bind_some] at k
        split at k
        · rename_i hc
          have dp := dp_mono h1.sh (toPy_dp h1.head q2)
          have hd := h1.head
          cases hd with
          | tup a1 a2 => exact ⟨_, pd, rfl, dp, hc.1, hc.2.1, hc.2.2.1, hc.2.2.2, k _ S1 H1 e1 (h1.tail.push (.str _))⟩
          | lst a1 a2 => exact ⟨_, pd, rfl, dp, hc.1, hc.2.1, hc.2.2.1, hc.2.2.2, k _ S1 H1 e1 (h1.tail.push (.str _))⟩
          | _ => cases hr
        · exact k.elim
    · exact k.elim
  | exc e ρ1 => rw [q] at k; exact k
  | bad => rw [q] at k; exact k
end
end MR

set_option Elab.async false
set_option linter.all false
set_option maxRecDepth 100000
set_option maxHeartbeats 1000000
/-! MB11: the law's def at the place where it is called (no repr is under way there). -/
namespace MR
open PySem L2 PySem.Spec PyProof.Rows
section
variable {K : PySem.W.Frag} {G : Cl} {P : Program} {w : World} {mg : Str → Option Value} {base : Heap}
/-- the promise of a def that is called by the claim's caller alone -/
structure FnG (P : Program) (w : World) (K : PySem.W.Frag) (mg : Str → Option Value) (base : Heap) (f : Addr) (fd : FuncData) (ps : List Str) (sp : Sp) : Prop where
  go : ∀ (st : Shared) (hp : Hp) (us : List Value) (vs : List V) (Q : VK) (E : XK), Env0 P w K mg base callerA [] st hp → BindsTo st fd ⟨us, []⟩ (ps.zip us) → Vals vs us → sp vs hp Q E →
    codeAny (model P w) callerA (.call (.ref f) ⟨us, []⟩) (CR (L2.CX P w) [] P w hp st Q E) st
theorem FnG.imp {f : Addr} {fd : FuncData} {ps : List Str} {sp sp' : Sp} (F : FnG P w K mg base f fd ps sp) (h : ∀ vs H Q E, sp' vs H Q E → sp vs H Q E) : FnG P w K mg base f fd ps sp' :=
  ⟨fun st hp us vs Q E e b v s => F.go st hp us vs Q E e b v (h _ _ _ _ s)⟩
theorem room_caller {k : Nat} (h : k ≤ 40 := by decide) : Room k callerA := Room.mono (k := 40) ⟨rfl, by decide, by decide⟩ h
theorem fn_okG {x qual : Str} {st : Stmt} {f : Addr} {fd : FuncData} {N ps : List Str} {lv n k : Nat} {rm : Mode} {b : MS} {μe : List Mode} (F : Fun K x qual st f fd) (sc : FnScope N ps (defScope st)) (hn : ps.length = n) (hk : N.length = n + k) (hlv : lv + 1 ≤ 40)
    (hb : ∀ (cdv : Value) (A : Around) (outer : List Env) (s : Shared) (H : Hp) (E : XK), (A.deeper (envOfC qual (defScope st) s.heap.objs.size f cdv)).guards = some [] → Room lv (A.deeper (envOfC qual (defScope st) s.heap.objs.size f cdv)) →
      JSs (cxOf (L2.CX P w) P w K mg base N qual (defScope st) f cdv A outer s H E) G (scOf E rm n k) (List.replicate n .d ++ List.replicate k .x) μe (defBody st) b) :
    FnG P w K mg base f fd ps (spP K G n rm (mDef rm k b)) := by
  obtain ⟨oc, od, kV, doc, pm, an, cdv, ct, osl, rfl, lk, hcd⟩ := F.ex
  refine ⟨fun s H us vs Q E e0 hbi rv hsp => ?_⟩
  have R : Room (lv + 1) callerA := room_caller hlv
  have len : vs.length = ps.length := by rw [spP_len hsp, hn]
  have inK : K.In s.heap := e0.mod.kin.keeps fun a o z => (e0.bs a o z).1
  refine codeAny_call_function R.depth (inK _ _ lk) rfl sc.co sc.gen rfl (PySem.W.codeRec_of inK hcd) (hbi _ _ _ _ ?_)
  refine wpAny_newFunctionEnv_cells sc.kind (fun y hy => ?_) fun env ev s1 x => ?_
  · rcases sc.par y.1 (List.of_mem_zip (show (y.1, y.2) ∈ ps.zip us from hy)).1 with q | q
    · exact Or.inl q
    · exact Or.inr ⟨q, PySem.W.cellsFrom_some _ _ _ (Or.inl q)⟩
  subst ev
  refine ⟨(e0.mod.nolimit.keeps fun a o z => (e0.bs a o z).1).keeps x.toInCall.keep, codeAny_func ?_⟩
  obtain ⟨t, p1, s1'⟩ := (hb cdv callerA [] s H E rfl (R.deeper _)).ex
  have start_ok := inv_start (CX := L2.CX P w) (f := f) (cd := cdv) (qual := qual) (E := E) sc R.hd e0 len rv x
  have entry : t { nx := fun _ H' => Q .non H', rt := Q } (L2.start N vs) H := by
    obtain ⟨F0, S, ds, sh, fk, q, l, z⟩ := hsp
    have e1 : L2.start N vs = vs.map some ++ List.replicate k none := by
      unfold L2.start
      rw [show N.length - vs.length = k by omega]
    rw [e1]
    have en := EnvOk.args (G := G) sh fk q k
    rw [l] at en
    refine s1' F0 S H _ _ en _ ?_
    unfold mDef at z
    cases q2 : b (ds ++ List.replicate k .non) with
    | nx ρ' =>
      rw [q2] at z
      cases rm with
      | d => exact fun σ' S' H' e' h' => z _ S' H' e' (nonOk h' rfl)
      | _ => exact z.elim
    | ret d ρ' => rw [q2] at z; exact fun v μ1 σ' S' H' _ e' h' => z v S' H' e' h'.alone
    | exc e ρ' => rw [q2] at z; exact fun μ1 σ' c dct S' H' _ e' h' xx => z c dct S' H' e' h'.nothing xx
    | brk ρ' => rw [q2] at z; exact z.elim
    | cnt ρ' => rw [q2] at z; exact z.elim
    | bad => rw [q2] at z; exact z.elim
  refine wpAny_mono (p1.run [] s1 _ H _ start_ok entry) (fun fl s2 h2 => ?_) fun _ _ h2 => h2
  match fl, h2 with
  | .ret u, ⟨v, _, H2, J, r2, q2⟩ => exact ⟨v, H2, J.os, J.bare, J.base, J.hok, r2, q2⟩
  | .next, ⟨_, H2, J, q2⟩ => exact ⟨V.non, H2, J.os, J.bare, J.base, J.hok, rfl, q2⟩
  | .brk, ⟨_, _, _, q2⟩ => exact q2.elim
  | .cont, ⟨_, _, _, q2⟩ => exact q2.elim
/-- from a state in which at most the script is tracked -/
theorem law_at {fa a : Addr} {fd : FuncData} {x : Str} {sp : Sp} {s₁ : Shared} {mb : Str → Option Value} {H : Hp} (inK : K.In s₁.heap) (gl : s₁.heap.Ns mainGlobals mg) (bl : s₁.heap.Ns builtinsNs mb) (bq : ∀ x : Str, x ≠ "__name__" → mb x = bootBuiltins x) (nl : s₁.heap.NoLimit) (ng : s₁.gens = #[])
    {its : Array Value} {cnt : Nat} {dd : Option Addr} {slo : Array (Option Value)} (ha : s₁.heap.get? a = some ⟨.type "list", dd, .seq its cnt, slo⟩)
    (F : ∀ b : Heap, K.In b → b.Ns mainGlobals mg → FnG P w K mg b fa fd [x] sp) (bnd : ∀ (s : Shared) (u : Value), BindsTo s fd ⟨[u], []⟩ [(x, u)])
    (prom : sp [.ref a] H (fun v _ => v = .bl true) fun _ _ _ => False) (hO : Only H) (hok : HOk P w H s₁.heap) (hA : ∀ b, H b ≠ none → b = a) (hK : H a ≠ none → K.lookup a = none) :
    codeAny (model P w) callerA (.call (.ref fa) ⟨[.ref a], []⟩) (fun r s' => r = .ok (.ret (.bool true)) ∧ OldK s₁.heap s'.heap ∧ s'.os = s₁.os ∧ AllBare s'.gens) s₁ := by
  have keep1 : ∀ {c : Addr} {o : Obj}, s₁.heap.get? c = some o → H c = none → (hidT s₁.heap H).get? c = some o := fun q n => hidT_get q n
  have free : ∀ {c : Addr} {o : Obj}, s₁.heap.get? c = some o → (∀ es ep, o.data = .dict es ep → H c = none) := fun {c o} q es ep d => by
    cases z : H c with
    | none => rfl
    | some u =>
      exfalso
      have zc := hA c (by rw [z]; exact fun y => by cases y)
      rw [zc, ha] at q
      injection q with q
      subst q
      cases d
  have names : ∀ {c : Addr} {m : Str → Option Value}, s₁.heap.Ns c m → (hidT s₁.heap H).Ns c m := by
    rintro c m ⟨o, es, ep, q, d, r⟩
    exact ⟨o, es, ep, keep1 q (free q es ep d), d, r⟩
  have inB : K.In (hidT s₁.heap H) := fun c o q => by
    refine keep1 (inK c o q) ?_
    cases z : H c with
    | none => rfl
    | some u =>
      exfalso
      have zc := hA c (by rw [z]; exact fun y => by cases y)
      have := hK (by rw [← zc, z]; exact fun y => by cases y)
      rw [zc, this] at q
      cases q
  obtain ⟨mc, l1, l2⟩ := nl
  have e0 : Env0 P w K mg (hidT s₁.heap H) callerA [] s₁ H :=
    ⟨rfl, ⟨inB, names gl, ⟨mb, names bl, bq⟩, ⟨mc, names l1, l2⟩⟩, fun c o q => of_hidT q, Nat.le_of_eq (hidT_size _ _), trivial, fun c hc => absurd (show c ∈ ([] : List Addr) from hc) (by simp), hok, .of_eq ng⟩
  refine codeAny_mono ((F _ inB (names gl)).go s₁ H [.ref a] [.ref a] _ _ e0 (bnd s₁ (.ref a)) (.cons rfl .nil) prom) fun r s2 h2 => ?_
  match r, h2 with
  | .ok (.ret u), ⟨v, H2, q1, q2, un, hok2, rv, q3⟩ =>
    have q3 : v = .bl true := q3
    subst q3
    cases (show u = Value.bool true from rv)
    refine ⟨rfl, OldK.of_keep fun c o q => ?_, q1, q2⟩
    rcases hO c with z | ⟨ob, ys, z⟩
    · exact un.keep c o q z (fun y => absurd (show c ∈ ([] : List Addr) from y) (by simp)) (by simp)
    · have z2 := un.frzs c ob _ z
      obtain ⟨k1, _⟩ := hok c _ z
      obtain ⟨k2, _⟩ := hok2 c _ z2
      rw [q] at k1
      injection k1 with k1
      rw [k1]
      exact k2
  | .ok .next, z => exact z.elim
  | .ok .brk, z => exact z.elim
  | .ok .cont, z => exact z.elim
  | .error e, z =>
    obtain ⟨_, _, _, _, _, _, _, _, _, _, _, _, q⟩ := z
    exact q.elim
theorem walk_ofG {l : PySem.W.OpenLaw} {n : Nat} {q : Program} {loose : List Str} {XP : (Str → Option Value) → Heap → Prop} {YP : World → Heap → Prop} {d : DefRec} {Kp : Params → PySem.W.Frag} {sp : World → Sp} {x : Str}
    (hn : l.most = some n) (hn2 : n ≤ sizeLine) (hdf : d.params.defaults = []) (hY : ∀ (w : World) (h : Heap), YP w h → (Kp w.params).In h)
    (F : ∀ (w : World) (mg : Str → Option Value) (fa : Addr) (h : Heap), (Kp w.params).In h → h.Ns mainGlobals mg → mg d.name = some (.ref fa) →
      ∃ fd : FuncData, (∀ (s : Shared) (u : Value), BindsTo s fd ⟨[u], []⟩ [(x, u)]) ∧ ∀ base : Heap, (Kp w.params).In base → base.Ns mainGlobals mg → FnG l.prog w (Kp w.params) mg base fa fd [x] (sp w))
    (hsp : ∀ (w : World) (H : Hp) (a : Addr) (ns : List Int), ns.length ≤ n → Only H → SqL (Kp w.params) H a (ns.map V.int) → sp w [.ref a] H (fun v _ => v = .bl true) fun _ _ _ => False) :
    PySem.W.WalkO q loose XP YP l.row.toRowW d [] (fun f vs => PySem.call f vs) := by
  refine Att.attach_call hn hdf fun w s₀ s₁ mg mb fa o pm cd doc a vs ns Gr Y _ _ _ hmg hobj hints hlen hg => ?_
  have inK := hY w _ Y
  obtain ⟨fd, hb, hF⟩ := F w mg fa _ inK Gr.T.g hmg
  have rv := vals_ints hints
  have ln : vs.length = ns.length := hints.length
  have sz : ns.length ≤ sizeLine := Nat.le_trans hlen hn2
  cases hk : (Kp w.params).lookup a with
  | some ob =>
    have q := inK a ob hk
    rw [hobj] at q
    injection q with q
    subst q
    refine law_at (H := fun _ => none) inK Gr.T.g Gr.T.b Gr.T.builtins Gr.T.nolimit hg hobj hF hb (hsp w _ a ns hlen (fun _ => Or.inl rfl) (Or.inr ⟨_, vs.toArray, _, hk, rfl, rfl, rfl, by rw [List.size_toArray, ln]; exact sz, by simpa using rv⟩)) (fun _ => Or.inl rfl) (fun c u z => ?_) (fun c z => absurd rfl z) fun z => absurd rfl z
    cases (show (none : Option HO) = some u from z)
  | none =>
    let Hs : Hp := fun c => if c = a then some (.frz { cls := .type "list", data := .seq vs.toArray } (.lst (ns.map V.int))) else none
    have h1 : Hs a = some (.frz { cls := .type "list", data := .seq vs.toArray } (.lst (ns.map V.int))) := if_pos rfl
    have hO : Only Hs := fun c => by
      by_cases z : c = a
      · exact Or.inr ⟨_, _, if_pos z⟩
      · exact Or.inl (if_neg z)
    refine law_at (H := Hs) inK Gr.T.g Gr.T.b Gr.T.builtins Gr.T.nolimit hg hobj hF hb (hsp w Hs a ns hlen hO (Or.inl (Or.inr ⟨_, h1⟩))) hO (fun c u z => ?_) (fun c z => ?_) fun _ => hk
    · by_cases zc : c = a
      · subst zc
        rw [h1] at z
        cases z
        exact ⟨hobj, by rw [List.length_map]; exact sz, vs, _, rv, hobj⟩
      · have z2 : Hs c = none := if_neg zc
        rw [z2] at z
        cases z
    · by_cases zc : c = a
      · exact zc
      · exact absurd (if_neg zc) z
end
end MR

set_option Elab.async false
set_option linter.all false
set_option maxRecDepth 100000
set_option maxHeartbeats 1000000
/-! MB12: lending: an owned slot stands with what is foreign while others reckon; calls that borrow it; instances. -/
namespace MR
open PySem L2 PySem.Spec PyProof.Rows
section
variable {K : PySem.W.Frag} {G : Cl} {E : XS} {C : SC} {μ μ' μ1 : List Mode} {r : Mode} {X : Cx} {F : Fo} {S S' H H' : Hp} {σ : L2.St} {ρ : List D}
/-! ### lending -/
def ntOnly (o : Option HO) : Option HO := o.filter noTup
theorem ntOnly_some {o : Option HO} {u : HO} (h : ntOnly o = some u) : o = some u ∧ noTup u = true := Option.filter_eq_some_iff.mp h
theorem ntOnly_of {u : HO} (h : noTup u = true) : ntOnly (some u) = some u := by simp [ntOnly, h]
def Fo.lend (F : Fo) (H : Hp) (fp : List Addr) : Fo := ⟨fun a => if a ∈ fp then ntOnly (H a) else F a, F.pin, fun a o q => by
  split at q
  · exact (ntOnly_some q).2
  · exact F.nt a o q⟩
theorem Fo.lend_in {F : Fo} {H : Hp} {fp : List Addr} {a : Addr} (h : a ∈ fp) : F.lend H fp a = ntOnly (H a) := if_pos h
theorem Fo.lend_out {F : Fo} {H : Hp} {fp : List Addr} {a : Addr} (h : a ∉ fp) : F.lend H fp a = F a := if_neg h
/-- what is known of a slot's footprint -/
structure Fp (F : Fo) (S H : Hp) (fp : List Addr) : Prop where
  nd : fp.Nodup
  fr : ∀ a ∈ fp, S a = none ∧ F a = none
  th : ∀ a ∈ fp, ∃ o, H a = some o ∧ noTup o = true
theorem EnvOk.lend {i : Nat} {m : Mode} (h : EnvOk K G F S H μ σ ρ) (hm : μ[i]? = some m) : ∃ fp, SlotOk K G F.pin S H m (σ[i]?) (ρ.getD i .non) fp ∧ Fp F S H fp ∧ EnvOk K G (F.lend H fp) S H (μ.set i .x) σ ρ := by
  obtain ⟨fp, ⟨f1, f2, f3⟩, f4, sl, th⟩ := h.fps
  have hi : i < μ.length := (List.getElem?_eq_some_iff.mp hm).1
  refine ⟨fp i, sl i m hm, ⟨f3 i, f1 i, th i⟩, h.sh, fun a o q => ?_, by simp [h.ls], by simp [h.lr], fun j => if j = i then [] else fp j, ⟨?_, ?_, ?_⟩, ?_, ?_⟩
  · by_cases z : a ∈ fp i
    · rw [Fo.lend_in z] at q
      exact ⟨(ntOnly_some q).1, (f1 i a z).1⟩
    · rw [Fo.lend_out z] at q
      exact h.fk a o q
  · intro j a ha
    by_cases z : j = i
    · rw [if_pos z] at ha; cases ha
    · rw [if_neg z] at ha
      refine ⟨(f1 j a ha).1, ?_⟩
      rw [Fo.lend_out fun w => z (f2 j i a ha w)]
      exact (f1 j a ha).2
  · intro j k a ha hb
    by_cases z : j = i
    · rw [if_pos z] at ha; cases ha
    · by_cases z2 : k = i
      · rw [if_pos z2] at hb; cases hb
      · rw [if_neg z] at ha
        rw [if_neg z2] at hb
        exact f2 j k a ha hb
  · intro j
    show (if j = i then [] else fp j).Nodup
    split
    · exact List.nodup_nil
    · exact f3 j
  · intro j hj
    show (if j = i then [] else fp j) = []
    split
    · rfl
    · exact f4 j (by simpa using hj)
  · intro j m' e
    by_cases z : j = i
    · subst z
      rw [List.getElem?_set_self hi] at e
      cases e
      exact if_pos rfl
    · rw [List.getElem?_set_ne (Ne.symm z)] at e
      show SlotOk K G F.pin S H m' _ _ (if j = i then [] else fp j)
      rw [if_neg z]
      exact sl j m' e
/-- taken back: the heap may have changed at what was lent, and new things of it may be there -/
theorem EnvOk.unlend {i : Nat} {fp fp' : List Addr} {H0 H2 : Hp} {m' : Mode} {d' : D} (h : EnvOk K G (F.lend H0 fp) S H (μ.set i .x) σ ρ) (hi : i < μ.length) (f : Fp F S H0 fp) (off : ∀ a, a ∉ fp → H2 a = H a)
    (hs : SlotOk K G F.pin S H2 m' (σ[i]?) d' fp') (hn : fp'.Nodup) (hp : ∀ a ∈ fp', a ∈ fp) : EnvOk K G F S H2 (μ.set i m') σ (ρ.set i d') := by
  obtain ⟨fq, ⟨f1, f2, f3⟩, f4, sl, th⟩ := h.fps
  have away : ∀ j a, a ∈ fq j → a ∉ fp := fun j a ha hb => by
    have := (f1 j a ha).2
    rw [Fo.lend_in hb] at this
    obtain ⟨o, e, nt0⟩ := f.th a hb
    rw [e, ntOnly_of nt0] at this
    cases this
  have hls : σ.length = μ.length := by have := h.ls; simpa using this
  have hlr : ρ.length = μ.length := by have := h.lr; simpa using this
  refine ⟨fun a o e => ?_, fun a o e => ?_, by simp [hls], by simp [hlr], fun j => if j = i then fp' else fq j, ⟨?_, ?_, ?_⟩, ?_, ?_⟩
  · rw [off a fun z => by have := (f.fr a z).1; rw [e] at this; cases this]
    exact h.sh _ _ e
  · have z : a ∉ fp := fun z => by have := (f.fr a z).2; rw [e] at this; cases this
    have q := h.fk a o (by rw [Fo.lend_out z]; exact e)
    exact ⟨by rw [off a z]; exact q.1, q.2⟩
  · intro j a ha
    by_cases z : j = i
    · rw [if_pos z] at ha
      exact f.fr a (hp a ha)
    · rw [if_neg z] at ha
      have := f1 j a ha
      rw [Fo.lend_out (away j a ha)] at this
      exact this
  · intro j k a ha hb
    by_cases z : j = i
    · by_cases z2 : k = i
      · omega
      · rw [if_pos z] at ha
        rw [if_neg z2] at hb
        exact absurd (hp a ha) (away k a hb)
    · by_cases z2 : k = i
      · rw [if_neg z] at ha
        rw [if_pos z2] at hb
        exact absurd (hp a hb) (away j a ha)
      · rw [if_neg z] at ha
        rw [if_neg z2] at hb
        exact f2 j k a ha hb
  · intro j
    show (if j = i then fp' else fq j).Nodup
    split
    · exact hn
    · exact f3 j
  · intro j hj
    rw [List.length_set] at hj
    show (if j = i then fp' else fq j) = []
    rw [if_neg (by omega)]
    exact f4 j (by simpa using hj)
  · intro j m2 e
    by_cases z : j = i
    · subst z
      rw [List.getElem?_set_self hi] at e
      cases e
      have : (ρ.set j d').getD j .non = d' := by simp [List.getD, List.getElem?_set_self (show j < ρ.length by omega)]
      rw [this]
      show SlotOk K G F.pin S H2 m' _ _ (if j = j then fp' else fq j)
      rw [if_pos rfl]
      exact hs
    · rw [List.getElem?_set_ne (Ne.symm z)] at e
      have := sl j m2 (by rw [List.getElem?_set_ne (Ne.symm z)]; exact e)
      have e2 : (ρ.set i d').getD j .non = ρ.getD j .non := by simp [List.getD, List.getElem?_set_ne (Ne.symm z)]
      rw [e2]
      show SlotOk K G F.pin S H2 m2 _ _ (if j = i then fp' else fq j)
      rw [if_neg z]
      exact this.mono (Evl.Ex.refl S) fun a ha => off a (away j a ha)
/-- .. just as it was -/
theorem EnvOk.unlend0 {i : Nat} {fp : List Addr} {H0 : Hp} {S0 : Hp} {m : Mode} {d : D} (h : EnvOk K G (F.lend H0 fp) S H (μ.set i .x) σ ρ) (hm : μ[i]? = some m) (f : Fp F S0 H0 fp) (e : Ex S0 S)
    (hs : SlotOk K G F.pin S0 H0 m (σ[i]?) d fp) : EnvOk K G F S H μ σ (ρ.set i d) := by
  have hi : i < μ.length := (List.getElem?_eq_some_iff.mp hm).1
  have st : ∀ a ∈ fp, H a = H0 a ∧ S a = none := fun a ha => by
    obtain ⟨o, q, nt0⟩ := f.th a ha
    have := h.fk a o (by rw [Fo.lend_in ha, q, ntOnly_of nt0])
    exact ⟨this.1.trans q.symm, this.2⟩
  have f' : Fp F S H0 fp := ⟨f.nd, fun a ha => ⟨(st a ha).2, (f.fr a ha).2⟩, f.th⟩
  have := h.unlend (m' := m) (d' := d) hi f' (fun a _ => rfl) (hs.mono e fun a ha => (st a ha).1) f.nd fun a ha => ha
  have e3 : (μ.set i .x).set i m = μ := by
    rw [List.set_set]
    apply List.ext_getElem?
    intro j
    by_cases z : j = i
    · subst z; rw [List.getElem?_set_self hi, hm]
    · rw [List.getElem?_set_ne (Ne.symm z)]
  have e4 : μ.set i m = μ := by rw [List.set_set] at e3; exact e3
  rwa [e4] at this
/-- a thing that is lent joins in front -/
theorem EnvOk.joinS {m : Mode} {sv : Option V} {d : D} {fp : List Addr} {H0 : Hp} (h : EnvOk K G (F.lend H0 fp) S H μ σ ρ) (f : Fp F S H0 fp) (hs : SlotOk K G F.pin S H m (some sv) d fp) : EnvOk K G F S H (m :: μ) (sv :: σ) (d :: ρ) := by
  obtain ⟨fq, ⟨f1, f2, f3⟩, f4, sl, th⟩ := h.fps
  have away : ∀ j a, a ∈ fq j → a ∉ fp := fun j a ha hb => by
    have := (f1 j a ha).2
    rw [Fo.lend_in hb] at this
    obtain ⟨o, e, nt0⟩ := f.th a hb
    rw [e, ntOnly_of nt0] at this
    cases this
  refine ⟨h.sh, fun a o e => ?_, by simp [h.ls], by simp [h.lr], fun j => match j with | 0 => fp | j + 1 => fq j, ⟨?_, ?_, ?_⟩, ?_, ?_⟩
  · have z : a ∉ fp := fun z => by have := (f.fr a z).2; rw [e] at this; cases this
    exact h.fk a o (by rw [Fo.lend_out z]; exact e)
  · intro j a ha
    cases j with
    | zero => exact f.fr a ha
    | succ j =>
      have := f1 j a ha
      rw [Fo.lend_out (away j a ha)] at this
      exact this
  · intro j k a ha hb
    cases j with
    | zero =>
      cases k with
      | zero => rfl
      | succ k => exact absurd ha (away k a hb)
    | succ j =>
      cases k with
      | zero => exact absurd hb (away j a ha)
      | succ k => exact congrArg (· + 1) (f2 j k a ha hb)
  · intro j
    cases j with
    | zero => exact f.nd
    | succ j => exact f3 j
  · intro j hj
    cases j with
    | zero => simp at hj
    | succ j => exact f4 j (by simpa using hj)
  · intro j m2 e
    cases j with
    | zero =>
      simp only [List.getElem?_cons_zero, Option.some.injEq] at e
      subst e
      simpa using hs
    | succ j =>
      have := sl j m2 (by simpa using e)
      simpa [Fo.lend] using this
/-! ### borrowing -/
/-- what is foreign to a callee that has borrowed what stands at fp -/
def restB (H S : Hp) (fp : List Addr) : Hp := fun a => if a ∈ fp then none else rest H S a
theorem restB_some {fp : List Addr} {a : Addr} {o : HO} (h : restB H S fp a = some o) : H a = some o ∧ S a = none ∧ a ∉ fp := by
  unfold restB at h
  split at h
  · cases h
  · exact ⟨(rest_some h).1, (rest_some h).2, by assumption⟩
theorem restB_nt {H S : Hp} {fp : List Addr} (a : Addr) (o : HO) (h : restB H S fp a = some o) : noTup o = true := by
  unfold restB at h
  split at h
  · cases h
  · exact rest_nt a o h
theorem restB_of {fp : List Addr} {a : Addr} {o : HO} (h : H a = some o) (h2 : S a = none) (h3 : a ∉ fp) (h4 : noTup o = true) : restB H S fp a = some o := by
  unfold restB
  rw [if_neg h3]
  exact rest_of h h2 h4
/-- behind a call that borrowed slot i: the others stand as they stood -/
theorem EnvOk.backB {i : Nat} {m : Mode} {fp : List Addr} {pin : Nat → Addr} (h : EnvOk K G F S H μ σ ρ) (hm : μ[i]? = some m) (hl : EnvOk K G (F.lend H fp) S H (μ.set i .x) σ ρ) (f : Fp F S H fp) (e : Ex S S')
    {μ' : List Mode} {σ' : L2.St} {ρ' : List D} (q : EnvOk K G ⟨restB H S fp, pin, restB_nt⟩ S' H' μ' σ' ρ') : EnvOk K G F S' H' (μ.set i .x) σ ρ ∧ ∀ fp', (∀ a ∈ fp', S' a = none ∧ restB H S fp a = none) → (∀ a ∈ fp', ∃ o, H' a = some o ∧ noTup o = true) → fp'.Nodup → Fp F S' H' fp' ∧ EnvOk K G (F.lend H' fp') S' H' (μ.set i .x) σ ρ := by
  obtain ⟨fq, ⟨f1, f2, f3⟩, f4, sl, th⟩ := hl.fps
  have away : ∀ j a, a ∈ fq j → a ∉ fp := fun j a ha hb => by
    have := (f1 j a ha).2
    rw [Fo.lend_in hb] at this
    obtain ⟨o, e, nt0⟩ := f.th a hb
    rw [e, ntOnly_of nt0] at this
    cases this
  have stay : ∀ a o, H a = some o → noTup o = true → S a = none → a ∉ fp → H' a = some o ∧ S' a = none := fun a o h1 h4 h2 h3 => q.fk a o (restB_of h1 h2 h3 h4)
  have sh : Ex S' H' := q.sh
  have fk : ∀ a o, F a = some o → H' a = some o ∧ S' a = none := fun a o z => by
    obtain ⟨z1, z2⟩ := h.fk a o z
    exact stay a o z1 (F.nt a o z) z2 fun w => by have := (f.fr a w).2; rw [z] at this; cases this
  have fin : ∀ j a, a ∈ fq j → H' a = H a ∧ S' a = none ∧ F a = none := fun j a ha => by
    obtain ⟨o, ho, nt0⟩ := th j a ha
    have z := f1 j a ha
    have z3 := away j a ha
    rw [Fo.lend_out z3] at z
    obtain ⟨w1, w2⟩ := stay a o ho nt0 z.1 z3
    exact ⟨w1.trans ho.symm, w2, z.2⟩
  have slots : ∀ j m', (μ.set i .x)[j]? = some m' → SlotOk K G F.pin S' H' m' (σ[j]?) (ρ.getD j .non) (fq j) := fun j m' e' => (sl j m' e').mono e fun a ha => (fin j a ha).1
  refine ⟨⟨sh, fk, hl.ls, hl.lr, fq, ⟨fun j a ha => ⟨(fin j a ha).2.1, (fin j a ha).2.2⟩, f2, f3⟩, f4, slots⟩, fun fp' g1 g2 g3 => ?_⟩
  have off : ∀ a ∈ fp', F a = none := fun a ha => by
    cases z : F a with
    | none => rfl
    | some o =>
      obtain ⟨z1, z2⟩ := h.fk a o z
      have w : a ∉ fp := fun w => by have := (f.fr a w).2; rw [z] at this; cases this
      have := (g1 a ha).2
      rw [restB_of z1 z2 w (F.nt a o z)] at this
      cases this
  have away2 : ∀ j a, a ∈ fq j → a ∉ fp' := fun j a ha hb => by
    obtain ⟨o, ho, nt0⟩ := th j a ha
    have z := f1 j a ha
    have z3 := away j a ha
    have := (g1 a hb).2
    rw [restB_of ho z.1 z3 nt0] at this
    cases this
  refine ⟨⟨g3, fun a ha => ⟨(g1 a ha).1, off a ha⟩, g2⟩, ⟨sh, fun a o z => ?_, hl.ls, hl.lr, fq, ⟨fun j a ha => ⟨(fin j a ha).2.1, ?_⟩, f2, f3⟩, f4, slots⟩⟩
  · by_cases w : a ∈ fp'
    · rw [Fo.lend_in w] at z
      exact ⟨(ntOnly_some z).1, (g1 a w).1⟩
    · rw [Fo.lend_out w] at z
      exact fk a o z
  · rw [Fo.lend_out (away2 j a ha)]
    exact (fin j a ha).2.2
end
end MR

set_option Elab.async false
set_option linter.all false
set_option maxRecDepth 100000
set_option maxHeartbeats 1000000
/-! MB13: defs and methods that borrow their first argument, instances made and read. -/
namespace MR
open PySem L2 PySem.Spec PyProof.Rows
section
variable {K : PySem.W.Frag} {G : Cl} {E : XS} {C : SC} {μ μ' μ1 : List Mode} {r : Mode} {X : Cx} {F : Fo} {S S' H H' : Hp} {σ : L2.St} {ρ : List D}
variable {P : Program} {w : World} {mg : Str → Option Value} {base : Heap}
/-! ### owned slots by their shapes -/
theorem DatL.all : ∀ {vs : List V} {ds : List D}, DatL K G S vs ds → Ow K G S H true (.all .d) vs ds []
  | _, _, .nil => .all0
  | _, _, .cons h t => .all (f1 := []) (f2 := []) (.dat h) t.all
theorem Ow.flat : ∀ {vs : List V} {ds : List D} {fp : List Addr}, Ow K G S H true (.all .d) vs ds fp → fp = [] ∧ DatL K G S vs ds
  | _, _, _, .all0 => ⟨rfl, .nil⟩
  | _, _, _, .all (.dat h) t => by
    obtain ⟨e, q⟩ := t.flat
    subst e
    exact ⟨rfl, .cons h q⟩
theorem own_flat0 {vs : List V} {ds : List D} {p : Addr} {fp : List Addr} (h : OwnL K G S H vs ds fp) (e : p :: fp = [p]) : DatL K G S vs ds := own_flat h (by simpa using e)
def kindOk : Sh → D → Bool
  | .l _, .lst _ => true
  | .dk, .dK _ => true
  | .dt, .dT _ => true
  | .i c _, .ins c' _ => c == c'
  | _, _ => false
def oSh : Sh → Bool
  | .l (.all .d) => true
  | .dk => true
  | .dt => true
  | _ => false
def shS (m : Mode) (b : Sh) : Bool := match m with
  | .w a => decide (a = b)
  | .s _ a => decide (a = b)
  | .o => oSh b
  | _ => false
theorem slot_ow {pin : Nat → Addr} {m : Mode} {sv : Option (Option V)} {d : D} {fp : List Addr} {sh : Sh} (h : SlotOk K G pin S H m sv d fp) (e : shS m sh = true) (kd : kindOk sh d = true) :
    ∃ p, sv = some (some (.ref p)) ∧ Ow K G S H false sh [.ref p] [d] fp ∧ ∀ S' H' d' fp', Ow K G S' H' false sh [.ref p] [d'] fp' → SlotOk K G pin S' H' m sv d' fp' := by
  cases m with
  | w a =>
    have : a = sh := of_decide_eq_true e
    subst this
    obtain ⟨p, h1, h2⟩ := h
    exact ⟨p, h1, h2, fun S' H' d' fp' q => ⟨p, h1, q⟩⟩
  | s k a =>
    have : a = sh := of_decide_eq_true e
    subst this
    exact ⟨_, h.1, h.2, fun S' H' d' fp' q => ⟨h.1, q⟩⟩
  | o =>
    obtain ⟨p, h1, h2, h3⟩ := h
    subst h3
    cases h2 with
    | lst a1 a2 =>
      have : sh = .l (.all .d) := by
        have e : oSh sh = true := e
        unfold oSh at e
        split at e
        · rfl
        · cases kd
        · cases kd
        · cases e
      subst this
      refine ⟨p, h1, .lst a1 (own_flat a2 rfl).all, fun S' H' d' fp' q => ?_⟩
      cases q with
      | lst b1 b2 =>
        obtain ⟨e1, e2⟩ := b2.flat
        subst e1
        exact ⟨p, h1, .lst b1 e2.ownL, rfl⟩
    | dK a1 a2 a3 =>
      have : sh = .dk := by
        have e : oSh sh = true := e
        unfold oSh at e
        split at e
        · cases kd
        · rfl
        · cases kd
        · cases e
      subst this
      refine ⟨p, h1, .dk a1 a2 (own_flat a3 rfl), fun S' H' d' fp' q => ?_⟩
      cases q with
      | dk b1 b2 b3 => exact ⟨p, h1, .dK b1 b2 b3.ownL, rfl⟩
    | dT a1 a2 a3 =>
      have : sh = .dt := by
        have e : oSh sh = true := e
        unfold oSh at e
        split at e
        · cases kd
        · cases kd
        · rfl
        · cases e
      subst this
      refine ⟨p, h1, .dt a1 a2 (own_flat a3 rfl), fun S' H' d' fp' q => ?_⟩
      cases q with
      | dt b1 b2 b3 => exact ⟨p, h1, .dT b1 b2 b3.ownL, rfl⟩
    | ins a1 a2 a3 =>
      exfalso
      have e : oSh sh = true := e
      unfold oSh at e
      split at e
      · cases kd
      · cases kd
      · cases kd
      · cases e
  | x => cases e
  | d => cases e
  | e a => cases e
/-! ### what a def that borrows promises -/
inductive RB where
  | ok (d d1 : D) | exc (e : Err) (d1 : D) | bad
abbrev MPB := List D → RB
/-- the first argument is lent; mo, mx: what is known of it behind a result, behind an error -/
def spB (K : PySem.W.Frag) (G : Cl) (n : Nat) (rm : Mode) (sh : Sh) (mo mx : Mode) (f : MPB) : Sp := fun vs H Q E => ∃ (F : Fo) (S : Hp) (p : Addr) (us : List V) (d0 : D) (ds : List D) (fp : List Addr),
  vs = .ref p :: us ∧ ds.length = n ∧ DatL K G S us ds ∧ Ex S H ∧ (∀ a o, F a = some o → H a = some o ∧ S a = none) ∧ Fp F S H fp ∧ Ow K G S H false sh [.ref p] [d0] fp ∧ F.pin 0 = p ∧
  match f (d0 :: ds) with
  | .ok d d1 => ∀ v S' H', Ex S S' → EnvOk K G F S' H' [rm, mo] [some v, some (.ref p)] [d, d1] → Q v H'
  | .exc e d1 => ∀ c dct S' H', Ex S S' → EnvOk K G F S' H' [mx] [some (.ref p)] [d1] → ErrAt G e c dct H' → E c dct H'
  | .bad => False
theorem spB_len {n : Nat} {rm mo mx : Mode} {sh : Sh} {f : MPB} {vs : List V} {H : Hp} {Q : VK} {E : XK} (h : spB K G n rm sh mo mx f vs H Q E) : vs.length = n + 1 := by
  obtain ⟨F, S, p, us, d0, ds, fp, rfl, l, q, _⟩ := h
  rw [List.length_cons, q.length, l]
theorem EnvOk.argsB {p : Addr} {us : List V} {d0 : D} {ds : List D} {fp : List Addr} {sh : Sh} (sh0 : Ex S H) (fk : ∀ a o, F a = some o → H a = some o ∧ S a = none) (f : Fp F S H fp) (ow : Ow K G S H false sh [.ref p] [d0] fp) (hp : F.pin 0 = p) (q : DatL K G S us ds) (k : Nat) :
    EnvOk K G F S H (.s 0 sh :: (List.replicate ds.length .d ++ List.replicate k .x)) (some (.ref p) :: (us.map some ++ List.replicate k none)) (d0 :: (ds ++ List.replicate k .non)) := by
  have h : EnvOk K G (F.lend H fp) S H (List.replicate ds.length .d ++ List.replicate k .x) (us.map some ++ List.replicate k none) (ds ++ List.replicate k .non) := EnvOk.args sh0 (fun a o z => by
    by_cases w : a ∈ fp
    · rw [Fo.lend_in w] at z
      exact ⟨(ntOnly_some z).1, (f.fr a w).1⟩
    · rw [Fo.lend_out w] at z
      exact fk a o z) q k
  refine h.joinS f ?_
  rw [← hp]
  exact ⟨rfl, hp ▸ ow⟩
/-- the first two of an environment; the first -/
theorem EnvOk.two {m : Mode} {s t : Option V} {d d1 : D} (h : EnvOk K G F S H (r :: m :: μ) (s :: t :: σ) (d :: d1 :: ρ)) : EnvOk K G F S H [r, m] [s, t] [d, d1] := by
  have z := h.weak (μ := r :: m :: List.replicate μ.length .x) (by
    have : ∀ a : Mode, ModeLe a a = true := fun a => by cases a <;> simp [ModeLe]
    simp [ModesLe, this, modesLe_x])
  obtain ⟨sh, fk, ls, lr, fp, ⟨f1, f2, f3⟩, f4, sl⟩ := h
  refine ⟨sh, fk, rfl, rfl, fun i => match i with | 0 => fp 0 | 1 => fp 1 | _ + 2 => [], ⟨?_, ?_, ?_⟩, ?_, ?_⟩
  · intro i a ha
    match i, ha with
    | 0, ha => exact f1 0 a ha
    | 1, ha => exact f1 1 a ha
  · intro i j a ha hb
    match i, j, ha, hb with
    | 0, 0, _, _ => rfl
    | 0, 1, ha, hb => exact f2 0 1 a ha hb
    | 1, 0, ha, hb => exact f2 1 0 a ha hb
    | 1, 1, _, _ => rfl
  · intro i
    match i with
    | 0 => exact f3 0
    | 1 => exact f3 1
    | _ + 2 => exact List.nodup_nil
  · intro i hi
    match i, hi with
    | _ + 2, _ => rfl
  · intro i m' e
    match i, e with
    | 0, e =>
      have q := sl 0 m' (by simpa using e)
      simpa using q
    | 1, e =>
      have q := sl 1 m' (by simpa using e)
      simpa using q
def mDefB (rm : Mode) (k : Nat) (b : MS) : MPB := fun ds => match b (ds ++ List.replicate k .non) with
  | .ret d ρ => .ok d (ρ.getD 0 .non)
  | .nx ρ => match rm with
    | .d => .ok .non (ρ.getD 0 .non)
    | _ => .bad
  | .exc e ρ => .exc e (ρ.getD 0 .non)
  | _ => .bad
/-- what a body of a def that borrows is held to -/
def scOfB (E : XK) (rm mx : Mode) (n k : Nat) : SC := ⟨fun _ => E, rm, mx :: List.replicate (n + k) .x, List.replicate (n + k + 1) .x, List.replicate (n + k + 1) .x⟩
theorem split0 {α : Type} {a : α} {l : List α} {n : Nat} (h : l.length = n + 1) (d : α) : ∃ b t, l = b :: t ∧ l.getD 0 d = b ∧ t.length = n := by
  cases l with
  | nil => simp at h
  | cons b t => exact ⟨b, t, rfl, rfl, by simpa using h⟩
theorem modesLe_cons {m : Mode} {ν : List Mode} (h : ModesLe (m :: μ) ν = true) : ∃ n t, ν = n :: t ∧ ModeLe m n = true ∧ ModesLe μ t = true := by
  cases ν with
  | nil => simp [ModesLe] at h
  | cons n t =>
    simp only [ModesLe, Bool.and_eq_true] at h
    exact ⟨n, t, rfl, h.1, h.2⟩
theorem modeLe_s {k : Nat} {sh : Sh} {n : Mode} (h : ModeLe (.s k sh) n = true) : n = .s k sh := by
  cases n <;> simp_all [ModeLe]
/-- THE RULE for a def that borrows its first argument -/
theorem fn_okB {x qual : Str} {st : Stmt} {f : Addr} {fd : FuncData} {N ps : List Str} {lv n k : Nat} {rm : Mode} {sh : Sh} {b : MS} {μe : List Mode} (F : Fun K x qual st f fd) (sc : FnScope N ps (defScope st)) (hn : ps.length = n + 1) (hk : N.length = n + 1 + k)
    (hb : ∀ (cdv : Value) (A : Around) (outer : List Env) (s : Shared) (H : Hp) (E : XK), Room lv (A.deeper (envOfC qual (defScope st) s.heap.objs.size f cdv)) →
      JSs (cxOf (L2.CX P w) P w K mg base N qual (defScope st) f cdv A outer s H E) G (scOfB E rm (.s 0 sh) n k) (.s 0 sh :: (List.replicate n .d ++ List.replicate k .x)) μe (defBody st) b)
    (he : ModesLe (.s 0 sh :: List.replicate (n + k) .x) μe = true := by rfl) :
    FnOk P w K mg base (L2.CX P w) (lv + 1) f fd ps (spB K G n rm sh (.s 0 sh) (.s 0 sh) (mDefB rm k b)) := by
  refine F.okX sc (fun vs H Q E h => by rw [spB_len h, hn]) fun cdv A outer s H vs Q E hr h => ?_
  obtain ⟨t, p1, s1⟩ := (hb cdv A outer s H E hr).ex
  obtain ⟨F0, S, p, us, d0, ds, fp, rfl, l, q, sh0, fk, f0, ow, hp, z⟩ := h
  have hv : us.length = n := by rw [q.length, l]
  refine ⟨t, p1, ?_⟩
  have e0 : L2.start N (.ref p :: us) = some (.ref p) :: (us.map some ++ List.replicate k none) := by
    unfold L2.start
    rw [List.length_cons, show N.length - (us.length + 1) = k by omega]
    rfl
  rw [e0]
  have en := EnvOk.argsB (k := k) sh0 fk f0 ow hp q
  rw [l] at en
  refine s1 F0 S H _ _ en _ ?_
  have lift : ∀ {S' H' : Hp} {rm' : Mode} {v : V} {d : D} {ν : List Mode} {σ' : L2.St} {ρ' : List D}, ModesLe (.s 0 sh :: List.replicate (n + k) .x) ν = true → EnvOk K G F0 S' H' (rm' :: ν) (some v :: σ') (d :: ρ') → EnvOk K G F0 S' H' [rm', .s 0 sh] [some v, some (.ref p)] [d, ρ'.getD 0 .non] := by
    intro S' H' rm' v d ν σ' ρ' le h'
    obtain ⟨m, t, rfl, l1, l2⟩ := modesLe_cons le
    have := modeLe_s l1
    subst this
    obtain ⟨fp', _, _, sl⟩ := h'.sl
    have hs : σ'.length = t.length + 1 := by have := h'.ls; simpa using this
    have hr' : ρ'.length = t.length + 1 := by have := h'.lr; simpa using this
    obtain ⟨a, σ2, rfl, _, _⟩ := split0 (a := none) hs none
    obtain ⟨b, ρ2, rfl, _, _⟩ := split0 (a := D.non) hr' D.non
    have z1 := sl 1 (.s 0 sh) rfl
    have z2 : (some a : Option (Option V)) = some (some (.ref (F0.pin 0))) := z1.1
    rw [hp] at z2
    cases z2
    exact h'.two
  have lift1 : ∀ {S' H' : Hp} {ν : List Mode} {σ' : L2.St} {ρ' : List D}, ModesLe (.s 0 sh :: List.replicate (n + k) .x) ν = true → EnvOk K G F0 S' H' ν σ' ρ' → EnvOk K G F0 S' H' [.s 0 sh] [some (.ref p)] [ρ'.getD 0 .non] := by
    intro S' H' ν σ' ρ' le h'
    exact (lift le (h'.push .non)).tail
  unfold mDefB at z
  rw [List.cons_append] at z
  cases q2 : b (d0 :: (ds ++ List.replicate k .non)) with
  | nx ρ' =>
    rw [q2] at z
    cases rm with
    | d => exact fun σ' S' H' e' h' => z _ S' H' e' (lift he (h'.push .non))
    | _ => exact z.elim
  | ret d ρ' =>
    rw [q2] at z
    exact fun v μ1 σ' S' H' le e' h' => z v S' H' e' (lift le h')
  | exc e ρ' =>
    rw [q2] at z
    exact fun μ1 σ' c dct S' H' le e' h' z' => z c dct S' H' e' (lift1 le h') z'
  | brk ρ' => rw [q2] at z; exact z.elim
  | cnt ρ' => rw [q2] at z; exact z.elim
  | bad => rw [q2] at z; exact z.elim
/-- __init__: an instance without fields comes in, one of the shape sh goes out; no word of it behind an error -/
def mDefI (k : Nat) (b : MS) : MPB := fun ds => match b (ds ++ List.replicate k .non) with
  | .nx ρ => .ok .non (ρ.getD 0 .non)
  | .exc e ρ => .exc e .non
  | _ => .bad
theorem fn_okI {x qual : Str} {st : Stmt} {f : Addr} {fd : FuncData} {N ps : List Str} {lv n k : Nat} {sh0 sh : Sh} {b : MS} {μe : List Mode} (F : Fun K x qual st f fd) (sc : FnScope N ps (defScope st)) (hn : ps.length = n + 1) (hk : N.length = n + 1 + k)
    (hb : ∀ (cdv : Value) (A : Around) (outer : List Env) (s : Shared) (H : Hp) (E : XK), Room lv (A.deeper (envOfC qual (defScope st) s.heap.objs.size f cdv)) →
      JSs (cxOf (L2.CX P w) P w K mg base N qual (defScope st) f cdv A outer s H E) G (scOfB E .d .x n k) (.s 0 sh0 :: (List.replicate n .d ++ List.replicate k .x)) μe (defBody st) b)
    (he : ModesLe (.s 0 sh :: List.replicate (n + k) .x) μe = true := by rfl) :
    FnOk P w K mg base (L2.CX P w) (lv + 1) f fd ps (spB K G n .d sh0 (.s 0 sh) .x (mDefI k b)) := by
  refine F.okX sc (fun vs H Q E h => by rw [spB_len h, hn]) fun cdv A outer s H vs Q E hr h => ?_
  obtain ⟨t, p1, s1⟩ := (hb cdv A outer s H E hr).ex
  obtain ⟨F0, S, p, us, d0, ds, fp, rfl, l, q, sh0, fk, f0, ow, hp, z⟩ := h
  have hv : us.length = n := by rw [q.length, l]
  refine ⟨t, p1, ?_⟩
  have e0 : L2.start N (.ref p :: us) = some (.ref p) :: (us.map some ++ List.replicate k none) := by
    unfold L2.start
    rw [List.length_cons, show N.length - (us.length + 1) = k by omega]
    rfl
  rw [e0]
  have en := EnvOk.argsB (k := k) sh0 fk f0 ow hp q
  rw [l] at en
  refine s1 F0 S H _ _ en _ ?_
  unfold mDefI at z
  rw [List.cons_append] at z
  cases q2 : b (d0 :: (ds ++ List.replicate k .non)) with
  | nx ρ' =>
    rw [q2] at z
    intro σ' S' H' e' h'
    refine z .non S' H' e' ?_
    obtain ⟨m, t, rfl, l1, l2⟩ := modesLe_cons he
    have := modeLe_s l1
    subst this
    have hs : σ'.length = t.length + 1 := by have := h'.ls; simpa using this
    have hr' : ρ'.length = t.length + 1 := by have := h'.lr; simpa using this
    obtain ⟨a, σ2, rfl, _, _⟩ := split0 (a := none) hs none
    obtain ⟨b, ρ2, rfl, _, _⟩ := split0 (a := D.non) hr' D.non
    obtain ⟨fp', _, _, sl⟩ := h'.sl
    have z1 := sl 0 (.s 0 sh) rfl
    have z2 : (some a : Option (Option V)) = some (some (.ref (F0.pin 0))) := z1.1
    rw [hp] at z2
    cases z2
    exact (h'.push .non).two
  | ret d ρ' => rw [q2] at z; exact z.elim
  | exc e ρ' =>
    rw [q2] at z
    exact fun μ1 σ' c dct S' H' le e' h' z' => z c dct S' H' e' ⟨h'.sh, h'.fk, rfl, rfl, fun _ => [], ⟨fun _ _ q => (by cases q), fun _ _ _ q => (by cases q), fun _ => List.nodup_nil⟩, fun _ _ => rfl, fun i m e2 => by
      cases i with
      | zero => cases e2; rfl
      | succ i => simp at e2⟩ z'
  | brk ρ' => rw [q2] at z; exact z.elim
  | cnt ρ' => rw [q2] at z; exact z.elim
  | bad => rw [q2] at z; exact z.elim
end
end MR

set_option Elab.async false
set_option linter.all false
set_option maxRecDepth 100000
set_option maxHeartbeats 1000000
/-! MB14: calls that borrow; methods; instances made, read, stored into. -/
namespace MR
open PySem L2 PySem.Spec PyProof.Rows
section
variable {X : Cx} {CX : CXT} {k : Nat} {f C : Addr} {fd : FuncData} {ps : List Str} {sp : Sp} {dvs : List V} {ds : List Value} {W : L2.St → XK} {x m : Str} {p pos ap : Pos} {e o : Expr} {es : List Expr} {ta : TE} {t : TA}
/-! ### the kit's rules, with the wish at the caller's slots -/
def tMethW (C : Addr) (m : Str) (sp : Sp) (dvs : List V) (W : L2.St → XK) (ta : TE) (t : TA) : TE := fun σ H Q => ta σ H fun y H1 => ∃ b dx gs, y = .ref b ∧ H1 b = some (.ins C dx gs) ∧ gs.lookup m = none ∧ t σ H1 fun us H2 => sp (y :: (us ++ dvs)) H2 Q (W σ)
theorem pe_methW {pl : Sem Bool} (ho : PE X o ta) (c : Cls X.K C) (hm : Meth X.K C m f) (F : FnOk X.prog X.w X.K X.mg X.base CX k f fd ps sp) (hr : Room k X.A) (hb : Binds X.K fd ps ds) (hd : Vals dvs ds) (hx : ∀ σ, PassesAt CX X σ (W σ)) (ha : PA X (e :: es) t)
    (h1 : starEach (e :: es) X.env = (false, eval e X.env) :: starEach es X.env := by rfl) (h2 : (backTo pos (starEach es X.env)).any (·.1) = false := by rfl)
    (h3 : eval (.Call (.Attribute o m ap) (e :: es) [] pos) X.env = (eval o X.env >>= fun rv => standAt ap.atName >>= fun _ => holding [rv] (getMethod rv m pl) >>= fun gf => callWith pos gf.1 gf.2 (backTo pos (starEach (e :: es) X.env)) (backToKw pos (keywordEach [] X.env))) := by rfl) :
    PE X (.Call (.Attribute o m ap) (e :: es) [] pos) (tMethW C m sp dvs W ta t) := by
  refine ⟨fun pins s σ H Q I h => ?_⟩
  refine PySem.W.methodCall_KW (pl := pl) (thn (ho.run pins s σ H _ I h) fun u s1 ⟨y, H1, I1, ry, b, dx, gs, ey, eb, l, q⟩ => ?_) h3
  subst ey
  obtain rfl : u = Value.ref b := ry
  refine getmeth_ok I1 eb c hm l ?_
  refine PySem.W.callWith_K (first := [.ref b]) (h₀ := X.base) I.ok.mod.kin hm.kp (thn (ha.run pos pins s1 σ H1 _ I1 q) fun us s2 ⟨vs, H2, I2, r, q2⟩ => ⟨I2.kIn, ?_⟩) h1 h2
  exact run_fnSD (us := .ref b :: us) (vs := .ref b :: vs) F hr hb hd (hx σ) I2 (.cons rfl r) q2
theorem pe_methW0 {pl : Sem Bool} (ho : PE X o ta) (c : Cls X.K C) (hm : Meth X.K C m f) (F : FnOk X.prog X.w X.K X.mg X.base CX k f fd ps sp) (hr : Room k X.A) (hb : Binds X.K fd ps ds) (hd : Vals dvs ds) (hx : ∀ σ, PassesAt CX X σ (W σ))
    (h3 : eval (.Call (.Attribute o m ap) [] [] pos) X.env = (eval o X.env >>= fun rv => standAt ap.atName >>= fun _ => holding [rv] (getMethod rv m pl) >>= fun gf => callWith pos gf.1 gf.2 (backTo pos (starEach [] X.env)) (backToKw pos (keywordEach [] X.env))) := by rfl) :
    PE X (.Call (.Attribute o m ap) [] [] pos) (tMethW C m sp dvs W ta tNil) := by
  refine ⟨fun pins s σ H Q I h => ?_⟩
  refine PySem.W.methodCall_KW (pl := pl) (thn (ho.run pins s σ H _ I h) fun u s1 ⟨y, H1, I1, ry, b, dx, gs, ey, eb, l, q⟩ => ?_) h3
  subst ey
  obtain rfl : u = Value.ref b := ry
  refine getmeth_ok I1 eb c hm l ?_
  exact PySem.W.callWith_K0 (first := [.ref b]) I1.kIn hm.kp (run_fnSD (us := [.ref b]) (vs := [.ref b]) F hr hb hd (hx σ) I1 (.cons rfl .nil) q)
def tMakeW (C : Addr) (sp : Sp) (dvs : List V) (W : L2.St → XK) (t : TA) : TE := fun σ H Q => t σ H fun us H1 => ∀ b dx, H1 b = none → H1 dx = none → dx ≠ b → sp (.ref b :: (us ++ dvs)) (upd (upd H1 dx (.own b)) b (.ins C dx [])) (fun v H2 => v = .non ∧ Q (.ref b) H2) (W σ)
theorem run_makeW {pins : List (Addr × Obj)} {σ : L2.St} {H : Hp} {s : Shared} {Q : VK} {us : List Value} {vs : List V} (M : Mk X.K C f) (F : FnOk X.prog X.w X.K X.mg X.base CX k f fd ps sp) (hr : Room (k + 1) X.A) (hb : Binds X.K fd ps ds) (hd : Vals dvs ds) (hx : PassesAt CX X σ (W σ)) (I : Inv X pins σ H s) (r : Vals vs us)
    (h : ∀ b dx, H b = none → H dx = none → dx ≠ b → sp (.ref b :: (vs ++ dvs)) (upd (upd H dx (.own b)) b (.ins C dx [])) (fun v H2 => v = .non ∧ Q (.ref b) H2) (W σ)) : wpAny (model X.prog X.w) X.A (call (.ref C) us) (EP X pins σ Q) X.xe s := by
  have n1 : H (s.heap.objs.size + 1) = none := I.hok.fresh (Nat.le_succ _)
  have n2 : H s.heap.objs.size = none := I.hok.fresh (Nat.le_refl _)
  have hq := h (s.heap.objs.size + 1) s.heap.objs.size n1 n2 (Nat.ne_of_lt (Nat.lt_succ_self _))
  have I2 := Inv.made (C := C) I
  have r2 : Vals (V.ref (s.heap.objs.size + 1) :: (vs ++ dvs)) (Value.ref (s.heap.objs.size + 1) :: (us ++ ds)) := .cons rfl (r.append hd)
  have hl : (Value.ref (s.heap.objs.size + 1) :: us ++ ds).length = ps.length := (by have q := r2.length; rw [F.len _ _ _ _ hq] at q; exact q.symm)
  have run := F.run _ X.stack _ _ ⟨Value.ref (s.heap.objs.size + 1) :: us, []⟩ (Value.ref (s.heap.objs.size + 1) :: (us ++ ds)) _ _ (W σ) (hr.make C us []) (I2.env0.make C us []) (hb _ (Value.ref (s.heap.objs.size + 1) :: us) I2.kIn hl) r2 hq
  refine wpAny_call (make_map (f := f) I.kIn M.makes M.init (beq_iff_eq.mp M.fn) (codeAny_mono run fun res s' hz => ?_))
  cases res with
  | error ex => exact hx pins _ _ ex s' I2 hz
  | ok fl =>
    cases fl with
    | ret u =>
      obtain ⟨v, H', I3, rv, ev, q3⟩ := I2.after hz
      subst ev
      exact ⟨rv, ⟨V.ref (s.heap.objs.size + 1), H', I3, rfl, q3⟩⟩
    | next => exact hz.elim
    | brk => exact hz.elim
    | cont => exact hz.elim
theorem pe_makeW (M : Mk X.K C f) (F : FnOk X.prog X.w X.K X.mg X.base CX k f fd ps sp) (hr : Room (k + 1) X.A) (hg : Gl X x) (hm : X.mg x = some (.ref C)) (hb : Binds X.K fd ps ds) (hd : Vals dvs ds) (hx : ∀ σ, PassesAt CX X σ (W σ)) (ha : PA X (e :: es) t)
    (h0 : (x == ("__debug__" : Str)) = false := by decide) (h1 : starEach (e :: es) X.env = (false, eval e X.env) :: starEach es X.env := by rfl) (h2 : (backTo pos (starEach es X.env)).any (·.1) = false := by rfl) :
    PE X (.Call (.Name x p) (e :: es) [] pos) (tMakeW C sp dvs W t) := by
  refine ⟨fun pins s σ H Q I h => wpAny_Call_Name_kw (ld_glob I hg hm ?_ h0)⟩
  refine PySem.W.callWith_K (h₀ := X.base) I.ok.mod.kin M.kp (thn (ha.run pos pins s σ H _ I h) fun us s1 ⟨vs, H1, I1, r, q⟩ => ⟨I1.kIn, ?_⟩) h1 h2
  exact run_makeW M F hr hb hd (hx σ) I1 r q
end
section
variable {K : PySem.W.Frag} {G : Cl} {E : XS} {C : SC} {μ μ' μ1 : List Mode} {r : Mode} {X : Cx} {F : Fo} {S S' H H' : Hp} {σ : L2.St} {ρ : List D}
variable {P : Program} {w : World} {mg : Str → Option Value} {base : Heap}
/-! ### a slot is borrowed -/
theorem Fo.lend_app {F : Fo} {H : Hp} {A B : List Addr} : F.lend H (A ++ B) = (F.lend H A).lend H B := by
  unfold Fo.lend
  congr 1
  funext a
  by_cases h2 : a ∈ B
  · simp [h2]
  · by_cases h1 : a ∈ A <;> simp [h1, h2]
theorem set_back {α : Type} {l : List α} {i : Nat} {a b : α} (h : l[i]? = some a) : (l.set i b).set i a = l := by
  have hi : i < l.length := (List.getElem?_eq_some_iff.mp h).1
  rw [List.set_set]
  apply List.ext_getElem?
  intro j
  by_cases z : j = i
  · subst z; rw [List.getElem?_set_self hi, h]
  · rw [List.getElem?_set_ne (Ne.symm z)]
theorem EnvOk.borrow {i : Nat} {m : Mode} {sh : Sh} {us : List V} {ds : List D} (h : EnvOk K G F S H μ σ ρ) (hm : μ[i]? = some m) (hs : shS m sh = true) (hk : kindOk sh (ρ.getD i .non) = true) (q : DatL K G S us ds) (hr : pinless r = true) :
    ∃ p fp, σ[i]? = some (some (.ref p)) ∧ Ow K G S H false sh [.ref p] [ρ.getD i .non] fp ∧ ∀ (f : MPB) (Q : VK) (E' : XK), (match f (ρ.getD i .non :: ds) with
      | .ok d d1 => ∀ v S' H', Ex S S' → EnvOk K G F S' H' (r :: μ) (some v :: σ) (d :: ρ.set i d1) → Q v H'
      | .exc e d1 => ∀ c dct S' H', Ex S S' → EnvOk K G F S' H' μ σ (ρ.set i d1) → ErrAt G e c dct H' → E' c dct H'
      | .bad => False) → spB K G ds.length r sh (.s 0 sh) (.s 0 sh) f (.ref p :: us) H Q E' := by
  obtain ⟨fp, sl, fo, hl⟩ := h.lend hm
  have hi : i < μ.length := (List.getElem?_eq_some_iff.mp hm).1
  obtain ⟨p, hp, ow, back⟩ := slot_ow sl hs hk
  refine ⟨p, fp, hp, ow, fun f Q E' k => ?_⟩
  refine ⟨⟨restB H S fp, fun _ => p, restB_nt⟩, S, p, us, _, ds, fp, rfl, rfl, q, h.sh, fun a o z => ⟨(restB_some z).1, (restB_some z).2.1⟩, ⟨fo.nd, fun a ha => ⟨(fo.fr a ha).1, if_pos ha⟩, fo.th⟩, ow, rfl, ?_⟩
  cases e : f (ρ.getD i .non :: ds) with
  | bad => rw [e] at k; exact k
  | ok d d1 =>
    rw [e] at k
    intro v S' H' ex z
    refine k v S' H' ex ?_
    obtain ⟨fq, ⟨f1, f2, f3⟩, f4, s2, th⟩ := z.fps
    have sA := s2 1 (.s 0 sh) rfl
    have sB := s2 0 r rfl
    simp only [List.getElem?_cons_zero, List.getElem?_cons_succ, List.getD_cons_zero, List.getD_cons_succ] at sA sB
    obtain ⟨_, g⟩ := h.backB hm hl fo ex z
    have nd : (fq 1 ++ fq 0).Nodup := by
      rw [List.nodup_append]
      refine ⟨f3 1, f3 0, fun a ha b hb e2 => ?_⟩
      subst e2
      exact absurd (f2 1 0 a ha hb) (by decide)
    obtain ⟨g1, g2⟩ := g (fq 1 ++ fq 0) (fun a ha => by rcases List.mem_append.mp ha with ha | ha; exact f1 1 a ha; exact f1 0 a ha) (fun a ha => by rcases List.mem_append.mp ha with ha | ha; exact th 1 a ha; exact th 0 a ha) nd
    rw [Fo.lend_app] at g2
    have g3 := g2.joinS (m := r) (sv := some v) (d := d) ⟨f3 0, fun a ha => ⟨(f1 0 a ha).1, by
      rw [Fo.lend_out fun hb => absurd (f2 1 0 a hb ha) (by decide)]
      exact (g1.fr a (List.mem_append_right _ ha)).2⟩, th 0⟩ (sB.repin hr)
    have g4 : EnvOk K G (F.lend H' (fq 1)) S' H' ((r :: μ).set (i + 1) .x) (some v :: σ) (d :: ρ) := g3
    have g5 := g4.unlend (m' := m) (d' := d1) (H2 := H') (fp' := fq 1) (by simpa using hi) ⟨f3 1, fun a ha => g1.fr a (List.mem_append_left _ ha), th 1⟩ (fun _ _ => rfl) (by simpa using back S' H' d1 (fq 1) sA.2) (f3 1) fun a ha => ha
    have e3 : (r :: μ).set (i + 1) m = r :: μ := by
      have := set_back (l := r :: μ) (i := i + 1) (a := m) (b := m) (by simpa using hm)
      rw [List.set_set] at this
      exact this
    rw [e3] at g5
    exact g5
  | exc er d1 =>
    rw [e] at k
    intro c dct S' H' ex z er'
    refine k c dct S' H' ex ?_ er'
    obtain ⟨fq, ⟨f1, f2, f3⟩, f4, s2, th⟩ := z.fps
    have sA := s2 0 (.s 0 sh) rfl
    simp only [List.getElem?_cons_zero, List.getD_cons_zero] at sA
    obtain ⟨_, g⟩ := h.backB hm hl fo ex z
    obtain ⟨g1, g2⟩ := g (fq 0) (f1 0) (th 0) (f3 0)
    have g5 := g2.unlend (m' := m) (d' := d1) (H2 := H') (fp' := fq 0) hi g1 (fun _ _ => rfl) (back S' H' d1 (fq 0) sA.2) (f3 0) fun a ha => ha
    have e3 : μ.set i m = μ := by
      have := set_back (l := μ) (i := i) (a := m) (b := m) hm
      rw [List.set_set] at this
      exact this
    rw [e3] at g5
    exact g5
/-- f(x, ..), x lent -/
def mCallB (i : Nat) (sh : Sh) (f : MPB) (dd : List D) (a : MA) : ME := fun ρ => (a ρ).bind fun ds ρ1 => if kindOk sh (ρ1.getD i .non) = true then (match f (ρ1.getD i .non :: (ds ++ dd)) with
  | .ok d d1 => .ok d (ρ1.set i d1)
  | .exc e d1 => .exc e (ρ1.set i d1)
  | .bad => .bad) else .bad
structure DefB (P : Program) (w : World) (K : PySem.W.Frag) (mg : Str → Option Value) (base : Heap) (G : Cl) (x : Str) (n : Nat) (rm : Mode) (sh : Sh) (f : MPB) (k : Nat) (dd : List D) : Prop where
  ex : ∃ (a : Addr) (fd : FuncData) (ps : List Str) (ds : List Value) (dvs : List V), FnOk P w K mg base (L2.CX P w) k a fd ps (spB K G n rm sh (.s 0 sh) (.s 0 sh) f) ∧ mg x = some (.ref a) ∧ PySem.W.keepIn K (.ref a) = true ∧ Binds K fd ps ds ∧ Vals dvs ds ∧ ∀ S, DatL K G S dvs dd
theorem borrow_at {i : Nat} {m : Mode} {sh : Sh} {f : MPB} {dd : List D} {dvs : List V} {us : List V} {ds : List D} {n : Nat} {Q : VK} {E' : XK} (h : EnvOk K G F S H μ σ ρ) (hm : μ[i]? = some m) (hs : shS m sh = true) (q : DatL K G S us ds) (hd : DatL K G S dvs dd) (hn : (ds ++ dd).length = n) (hr : pinless r = true)
    (k : EOk K G (fun _ => E') r μ F S σ Q (if kindOk sh (ρ.getD i .non) = true then (match f (ρ.getD i .non :: (ds ++ dd)) with
      | .ok d d1 => .ok d (ρ.set i d1)
      | .exc e d1 => .exc e (ρ.set i d1)
      | .bad => .bad) else .bad)) : ∃ p fp, σ[i]? = some (some (.ref p)) ∧ Ow K G S H false sh [.ref p] [ρ.getD i .non] fp ∧ spB K G n r sh (.s 0 sh) (.s 0 sh) f (.ref p :: (us ++ dvs)) H Q E' := by
  split at k
  · rename_i hk
    obtain ⟨p, fp, hp, ow, go⟩ := h.borrow hm hs hk (q.append hd) hr
    refine ⟨p, fp, hp, ow, ?_⟩
    rw [← hn]
    refine go f Q E' ?_
    cases e : f (ρ.getD i .non :: (ds ++ dd)) with
    | ok d d1 => rw [e] at k; exact k
    | exc er d1 => rw [e] at k; exact k
    | bad => rw [e] at k; exact k
  · exact k.elim
theorem eok_const {Q : VK} {o : RR D} (h : EOk K G E r μ F S σ Q o) : EOk K G (fun _ => E σ) r μ F S σ Q o := by
  cases o with
  | ok d ρ => exact h
  | exc e ρ => exact h
  | bad => exact h
theorem je_callB {x y : Str} {i n k m : Nat} {mo : Mode} {sh : Sh} {f : MPB} {dd : List D} {es : List Expr} {a : MA} {p p2 pos : Pos} (B : DefB X.prog X.w X.K X.mg X.base G x n r sh f k dd) (hr : Room k X.A) (tk : Takes X (fun c d σ H => E σ c d H)) (ha : JA X G E μ es a) (hl : ALen a m)
    (hm : μ[i]? = some mo := by rfl) (hs : shS mo sh = true := by rfl) (hn : m + dd.length = n := by rfl) (hpr : pinless r = true := by rfl) (hN : X.N[i]? = some y := by rfl) (hx : Vis X.env.scope y := by first | exact Or.inl rfl | exact Or.inr (Or.inl rfl) | exact Or.inr (Or.inr rfl)) (hd : (y == ("__debug__" : Str)) = false := by decide) (hcd : (y == ("__classdict__" : Str)) = false := by decide)
    (hg : Gl X x := by rfl) (hdb : (x == ("__debug__" : Str)) = false := by decide) (he : starEach (.Name y p2 :: es) X.env = (false, eval (.Name y p2) X.env) :: starEach es X.env := by rfl) (hpl : (backTo pos (starEach es X.env)).any (·.1) = false := by rfl) :
    JE X G E r μ (.Call (.Name x p) (.Name y p2 :: es) [] pos) (mCallB i sh f dd a) := by
  obtain ⟨t1, p1, s1⟩ := ha.ex
  obtain ⟨A, fd, ps, ds, dvs, h1, h2, h3, h4, h5, h6⟩ := B.ex
  refine ⟨_, pe_callSD h1 hr hg h2 h3 h4 h5 (fun σ => passAt tk σ) (pa_cons (pe_var hN hx hd hcd) p1 he) hdb he hpl, fun F S H σ ρ h Q k => ?_⟩
  obtain ⟨fp, sl, _, _⟩ := h.lend hm
  have hv : ∃ p, σ[i]? = some (some (V.ref p)) := by
    cases mo with
    | w _ => exact let ⟨p, a, _⟩ := sl; ⟨p, a⟩
    | s _ _ => exact ⟨_, sl.1⟩
    | o => exact let ⟨p, a, _⟩ := sl; ⟨p, a⟩
    | _ => cases hs
  obtain ⟨p0, hv⟩ := hv
  refine ⟨_, hv, s1 F S H σ ρ h _ ?_⟩
  unfold mCallB at k
  cases q : a ρ with
  | ok ds ρ1 =>
    rw [q, bind_ok] at k
    intro us S1 H1 e1 hh q1
    obtain ⟨p, _, hp, _, z⟩ := borrow_at hh hm hs q1 (h6 S1) (by rw [List.length_append, hl ρ ds ρ1 q, hn]) hpr (eok_const (EOk.mono e1 k))
    rw [hv] at hp
    cases hp
    exact z
  | exc e ρ1 => rw [q] at k; exact k
  | bad => rw [q] at k; exact k
end
end MR

set_option Elab.async false
set_option linter.all false
set_option maxRecDepth 100000
set_option maxHeartbeats 1000000
/-! MB15: instances: methods, making, fields. -/
namespace MR
open PySem L2 PySem.Spec PyProof.Rows
section
variable {K : PySem.W.Frag} {G : Cl} {E : XS} {C : SC} {μ μ' μ1 : List Mode} {r : Mode} {X : Cx} {F : Fo} {S S' H H' : Hp} {σ : L2.St} {ρ : List D}
variable {P : Program} {w : World} {mg : Str → Option Value} {base : Heap}
/-! ### facts of a class -/
structure ClsO (K : PySem.W.Frag) (G : Cl) (c : Nat) : Prop where
  cl : Cls K (G.cA c)
structure FldO (K : PySem.W.Frag) (G : Cl) (c : Nat) (f : Str) : Prop where
  no : NoAttr K (G.cA c) f
structure MethB (P : Program) (w : World) (K : PySem.W.Frag) (mg : Str → Option Value) (base : Heap) (G : Cl) (c : Nat) (m : Str) (n : Nat) (rm : Mode) (sh : Sh) (f : MPB) (k : Nat) (dd : List D) : Prop where
  ex : ∃ (a : Addr) (fd : FuncData) (ps : List Str) (ds : List Value) (dvs : List V), FnOk P w K mg base (L2.CX P w) k a fd ps (spB K G n rm sh (.s 0 sh) (.s 0 sh) f) ∧ Meth K (G.cA c) m a ∧ Binds K fd ps ds ∧ Vals dvs ds ∧ ∀ S, DatL K G S dvs dd
structure MethO (P : Program) (w : World) (K : PySem.W.Frag) (mg : Str → Option Value) (base : Heap) (G : Cl) (c : Nat) (m : Str) (n : Nat) (rm : Mode) (f : MP) (k : Nat) (dd : List D) : Prop where
  ex : ∃ (a : Addr) (fd : FuncData) (ps : List Str) (ds : List Value) (dvs : List V), FnOk P w K mg base (L2.CX P w) k a fd ps (spP K G n rm f) ∧ Meth K (G.cA c) m a ∧ Binds K fd ps ds ∧ Vals dvs ds ∧ ∀ S, DatL K G S dvs dd
structure MakeO (P : Program) (w : World) (K : PySem.W.Frag) (mg : Str → Option Value) (base : Heap) (G : Cl) (x : Str) (c : Nat) (n : Nat) (sh : Sh) (f : MPB) (k : Nat) (dd : List D) : Prop where
  ex : ∃ (a : Addr) (fd : FuncData) (ps : List Str) (ds : List Value) (dvs : List V), FnOk P w K mg base (L2.CX P w) k a fd ps (spB K G n .d (.i c .nil) (.s 0 sh) .x f) ∧ mg x = some (.ref (G.cA c)) ∧ Mk K (G.cA c) a ∧ Binds K fd ps ds ∧ Vals dvs ds ∧ ∀ S, DatL K G S dvs dd
/-! ### lookups by name -/
def noName (m : Str) : D → Bool
  | .ins _ fs => (fs.lookup m).isNone
  | _ => false
theorem lookup_zip {α β : Type} {f : Str} : ∀ {ks : List Str} {vs : List α} {ds : List β}, ks.length = vs.length → vs.length = ds.length → ((ks.zip vs).lookup f).isNone = ((ks.zip ds).lookup f).isNone
  | [], [], [], _, _ => rfl
  | k :: ks, v :: vs, d :: ds, h1, h2 => by
    simp only [List.zip_cons_cons, List.lookup]
    cases q : f == k with
    | true => rfl
    | false => exact lookup_zip (by simpa using h1) (by simpa using h2)
theorem noName_lookup {m : Str} {ks : List Str} {vs : List V} {ds : List D} {c : Nat} (h : noName m (.ins c (ks.zip ds)) = true) (h1 : ks.length = vs.length) (h2 : vs.length = ds.length) : (ks.zip vs).lookup m = none := by
  have h' : ((ks.zip ds).lookup m).isNone = true := h
  rw [← lookup_zip h1 h2] at h'
  exact Option.isNone_iff_eq_none.mp h'
/-! ### x.m(..), x an owned instance -/
def mMethB (i : Nat) (sh : Sh) (m : Str) (f : MPB) (dd : List D) (a : MA) : ME := fun ρ => if noName m (ρ.getD i .non) = true ∧ kindOk sh (ρ.getD i .non) = true then (mCallB i sh f dd a ρ) else .bad
theorem meth_at {i c : Nat} {mo : Mode} {row : Sh} (h : EnvOk K G F S H μ σ ρ) (hm : μ[i]? = some mo) (hs : shS mo (.i c row) = true) (hk : kindOk (.i c row) (ρ.getD i .non) = true) :
    ∃ (p dx : Addr) (ks : List Str) (vs : List V) (ds : List D), σ[i]? = some (some (.ref p)) ∧ H p = some (.ins (G.cA c) dx (ks.zip vs)) ∧ ks.length = vs.length ∧ vs.length = ds.length ∧ ρ.getD i .non = .ins c (ks.zip ds) := by
  obtain ⟨fp, sl, _, _⟩ := h.lend hm
  obtain ⟨p, hp, ow, _⟩ := slot_ow sl hs hk
  generalize ρ.getD i .non = d at ow
  cases ow with
  | ins a1 a2 a3 => exact ⟨p, _, _, _, _, hp, a1, a2, a3.length, rfl⟩
section
variable {c i n k m' : Nat} {mo : Mode} {row : Sh} {m y : Str} {f : MPB} {dd : List D} {e : Expr} {es : List Expr} {a : MA} {p2 ap pos : Pos}
theorem se_methB {ta : TA} {dvs : List V} (hm : μ[i]? = some mo) (hs : shS mo (.i c row) = true) (hpr : pinless r = true) (hn : ∀ ρ ds ρ1, a ρ = .ok ds ρ1 → (ds ++ dd).length = n) (h6 : ∀ S, DatL K G S dvs dd) (s1 : SA K G E μ ta a) :
    SE K G E r μ (tMethW (G.cA c) m (spB K G n r (.i c row) (.s 0 (.i c row)) (.s 0 (.i c row)) f) dvs E (tVar i) ta) (mMethB i (.i c row) m f dd a) := by
  intro F S H σ ρ h Q k
  unfold mMethB at k
  split at k
  · rename_i hc
    obtain ⟨p0, dx, ks, vs, ds0, hv, hp, l1, l2, e0⟩ := meth_at h hm hs hc.2
    refine ⟨_, hv, p0, dx, _, rfl, hp, noName_lookup (e0 ▸ hc.1) l1 l2, s1 F S H σ ρ h _ ?_⟩
    unfold mCallB at k
    cases q : a ρ with
    | ok ds ρ1 =>
      rw [q, bind_ok] at k
      intro us S1 H1 e1 hh q1
      obtain ⟨p, _, hp, _, z⟩ := borrow_at hh hm hs q1 (h6 S1) (hn ρ ds ρ1 q) hpr (eok_const (EOk.mono e1 k))
      rw [hv] at hp
      cases hp
      exact z
    | exc e ρ1 => rw [q] at k; exact k
    | bad => rw [q] at k; exact k
  · exact k.elim
theorem je_methB (B : MethB X.prog X.w X.K X.mg X.base G c m n r (.i c row) f k dd) (cl : ClsO X.K G c) (hr : Room k X.A) (tk : Takes X (fun c d σ H => E σ c d H)) (ha : JA X G E μ (e :: es) a) (hl : ALen a m')
    (hm : μ[i]? = some mo := by rfl) (hs : shS mo (.i c row) = true := by rfl) (hn : m' + dd.length = n := by rfl) (hpr : pinless r = true := by rfl) (hN : X.N[i]? = some y := by rfl) (hx : Vis X.env.scope y := by first | exact Or.inl rfl | exact Or.inr (Or.inl rfl) | exact Or.inr (Or.inr rfl)) (hd : (y == ("__debug__" : Str)) = false := by decide) (hcd : (y == ("__classdict__" : Str)) = false := by decide)
    (h1 : starEach (e :: es) X.env = (false, eval e X.env) :: starEach es X.env := by rfl) (h2 : (backTo pos (starEach es X.env)).any (·.1) = false := by rfl) {pl : Sem Bool}
    (h3 : eval (.Call (.Attribute (.Name y p2) m ap) (e :: es) [] pos) X.env = (eval (.Name y p2) X.env >>= fun rv => standAt ap.atName >>= fun _ => holding [rv] (getMethod rv m pl) >>= fun gf => callWith pos gf.1 gf.2 (backTo pos (starEach (e :: es) X.env)) (backToKw pos (keywordEach [] X.env))) := by rfl) :
    JE X G E r μ (.Call (.Attribute (.Name y p2) m ap) (e :: es) [] pos) (mMethB i (.i c row) m f dd a) := by
  obtain ⟨t1, p1, s1⟩ := ha.ex
  obtain ⟨A, fd, ps, ds, dvs, g1, g2, g4, g5, g6⟩ := B.ex
  exact ⟨_, pe_methW (pe_var hN hx hd hcd) cl.cl g2 g1 hr g4 g5 (fun σ => passAt tk σ) p1 h1 h2 h3, se_methB hm hs hpr (fun ρ ds ρ1 q => by rw [List.length_append, hl ρ ds ρ1 q, hn]) g6 s1⟩
theorem je_methB0 (B : MethB X.prog X.w X.K X.mg X.base G c m n r (.i c row) f k dd) (cl : ClsO X.K G c) (hr : Room k X.A) (tk : Takes X (fun c d σ H => E σ c d H))
    (hm : μ[i]? = some mo := by rfl) (hs : shS mo (.i c row) = true := by rfl) (hn : 0 + dd.length = n := by rfl) (hpr : pinless r = true := by rfl) (hN : X.N[i]? = some y := by rfl) (hx : Vis X.env.scope y := by first | exact Or.inl rfl | exact Or.inr (Or.inl rfl) | exact Or.inr (Or.inr rfl)) (hd : (y == ("__debug__" : Str)) = false := by decide) (hcd : (y == ("__classdict__" : Str)) = false := by decide) {pl : Sem Bool}
    (h3 : eval (.Call (.Attribute (.Name y p2) m ap) [] [] pos) X.env = (eval (.Name y p2) X.env >>= fun rv => standAt ap.atName >>= fun _ => holding [rv] (getMethod rv m pl) >>= fun gf => callWith pos gf.1 gf.2 (backTo pos (starEach [] X.env)) (backToKw pos (keywordEach [] X.env))) := by rfl) :
    JE X G E r μ (.Call (.Attribute (.Name y p2) m ap) [] [] pos) (mMethB i (.i c row) m f dd mNil) := by
  obtain ⟨t1, p1, s1⟩ := (ja_nil (X := X) (G := G) (E := E) (μ := μ)).ex
  obtain ⟨A, fd, ps, ds, dvs, g1, g2, g4, g5, g6⟩ := B.ex
  refine ⟨_, pe_methW0 (pe_var hN hx hd hcd) cl.cl g2 g1 hr g4 g5 (fun σ => passAt tk σ) h3, se_methB hm hs hpr (fun ρ ds ρ1 q => by rw [List.length_append, alen_nil ρ ds ρ1 q, hn]) g6 ?_⟩
  intro F S H σ ρ h Q k
  exact k [] S H (Evl.Ex.refl S) h .nil
end
/-! ### o.m(..), o data -/
def mMeth (c : Nat) (m : Str) (f : MP) (dd : List D) (o : ME) (a : MA) : ME := fun ρ => (o ρ).bind fun x ρ1 => if noName m x = true ∧ kindOk (.i c .nil) x = true then (a ρ1).bind fun ds ρ2 => (match f (x :: (ds ++ dd)) with
  | .ok d => .ok d ρ2
  | .exc e => .exc e ρ2
  | .bad => .bad) else .bad
section
variable {c n k m' : Nat} {m : Str} {f : MP} {dd : List D} {o e : Expr} {es : List Expr} {mo : ME} {a : MA} {ap pos : Pos}
theorem se_meth {to : TE} {ta : TA} {dvs : List V} (hpr : pinless r = true) (hn : ∀ ρ ds ρ1, a ρ = .ok ds ρ1 → (ds ++ dd).length + 1 = n) (h6 : ∀ S, DatL K G S dvs dd) (so : SE K G E .d μ to mo) (s1 : SA K G E μ ta a) :
    SE K G E r μ (tMethW (G.cA c) m (spP K G n r f) dvs E to ta) (mMeth c m f dd mo a) := by
  intro F S H σ ρ h Q k
  refine so F S H σ ρ h _ ?_
  unfold mMeth at k
  cases q0 : mo ρ with
  | ok x ρ1 =>
    rw [q0, bind_ok] at k
    intro v S1 H1 e1 h1
    have k1 := EOk.mono e1 k
    split at k1
    · rename_i hc
      have hd := h1.head
      cases hd with
      | @ins b dx c' ks vs ds0 a1 a2 a3 =>
        have ec : c = c' := by simpa [kindOk] using hc.2
        subst ec
        refine ⟨b, dx, _, rfl, h1.sh _ _ a1, noName_lookup hc.1 a2 a3.length, s1 F S1 H1 σ ρ1 h1.tail _ ?_⟩
        cases q : a ρ1 with
        | ok ds ρ2 =>
          rw [q, bind_ok] at k1
          intro us S2 H2 e2 h2 q1
          have k2 := EOk.mono e2 k1
          refine ⟨⟨rest H2 S2, fun _ => 0, rest_nt⟩, S2, _, h2.sh, fun _ _ z => rest_some z, .cons (Dat.ins (e2 _ _ a1) a2 (a3.mono e2)) (q1.append (h6 S2)), by rw [List.length_cons, hn ρ1 ds ρ2 q], ?_⟩
          cases q2 : f (.ins c (ks.zip ds0) :: (ds ++ dd)) with
          | ok d =>
            rw [q2] at k2
            exact fun v S3 H3 e3 h3 => k2 v S3 H3 e3 (h2.back e3 hpr h3)
          | exc e =>
            rw [q2] at k2
            exact fun c dct S3 H3 e3 h3 z => k2 c dct S3 H3 e3 (h2.back0 e3 h3) z
          | bad => rw [q2] at k2; exact k2
        | exc e ρ1 => rw [q] at k1; exact k1
        | bad => rw [q] at k1; exact k1
      | _ => simp [kindOk] at hc
    · exact k1.elim
  | exc e ρ1 => rw [q0] at k; exact k
  | bad => rw [q0] at k; exact k
theorem je_meth (B : MethO X.prog X.w X.K X.mg X.base G c m n r f k dd) (cl : ClsO X.K G c) (hr : Room k X.A) (tk : Takes X (fun c d σ H => E σ c d H)) (ho : JE X G E .d μ o mo) (ha : JA X G E μ (e :: es) a) (hl : ALen a m') (hn : m' + dd.length + 1 = n := by rfl) (hpr : pinless r = true := by rfl)
    (h1 : starEach (e :: es) X.env = (false, eval e X.env) :: starEach es X.env := by rfl) (h2 : (backTo pos (starEach es X.env)).any (·.1) = false := by rfl) {pl : Sem Bool}
    (h3 : eval (.Call (.Attribute o m ap) (e :: es) [] pos) X.env = (eval o X.env >>= fun rv => standAt ap.atName >>= fun _ => holding [rv] (getMethod rv m pl) >>= fun gf => callWith pos gf.1 gf.2 (backTo pos (starEach (e :: es) X.env)) (backToKw pos (keywordEach [] X.env))) := by rfl) :
    JE X G E r μ (.Call (.Attribute o m ap) (e :: es) [] pos) (mMeth c m f dd mo a) := by
  obtain ⟨t1, p1, s1⟩ := ha.ex
  obtain ⟨t0, p0, s0⟩ := ho.ex
  obtain ⟨A, fd, ps, ds, dvs, g1, g2, g4, g5, g6⟩ := B.ex
  exact ⟨_, pe_methW p0 cl.cl g2 g1 hr g4 g5 (fun σ => passAt tk σ) p1 h1 h2 h3, se_meth hpr (fun ρ ds ρ1 q => by rw [List.length_append, hl ρ ds ρ1 q, hn]) g6 s0 s1⟩
theorem je_meth0 (B : MethO X.prog X.w X.K X.mg X.base G c m n r f k dd) (cl : ClsO X.K G c) (hr : Room k X.A) (tk : Takes X (fun c d σ H => E σ c d H)) (ho : JE X G E .d μ o mo) (hn : 0 + dd.length + 1 = n := by rfl) (hpr : pinless r = true := by rfl) {pl : Sem Bool}
    (h3 : eval (.Call (.Attribute o m ap) [] [] pos) X.env = (eval o X.env >>= fun rv => standAt ap.atName >>= fun _ => holding [rv] (getMethod rv m pl) >>= fun gf => callWith pos gf.1 gf.2 (backTo pos (starEach [] X.env)) (backToKw pos (keywordEach [] X.env))) := by rfl) :
    JE X G E r μ (.Call (.Attribute o m ap) [] [] pos) (mMeth c m f dd mo mNil) := by
  obtain ⟨t0, p0, s0⟩ := ho.ex
  obtain ⟨A, fd, ps, ds, dvs, g1, g2, g4, g5, g6⟩ := B.ex
  refine ⟨_, pe_methW0 p0 cl.cl g2 g1 hr g4 g5 (fun σ => passAt tk σ) h3, se_meth hpr (fun ρ ds ρ1 q => by rw [List.length_append, alen_nil ρ ds ρ1 q, hn]) g6 s0 ?_⟩
  intro F S H σ ρ h Q k
  exact k [] S H (Evl.Ex.refl S) h .nil
end
/-! ### C(..) -/
def mMake (c : Nat) (f : MPB) (dd : List D) (a : MA) : ME := fun ρ => (a ρ).bind fun ds ρ1 => match f (.ins c [] :: (ds ++ dd)) with
  | .ok .non d1 => .ok d1 ρ1
  | .ok _ _ => .bad
  | .exc e _ => .exc e ρ1
  | .bad => .bad
section
variable {c n k m' : Nat} {x : Str} {sh : Sh} {f : MPB} {dd : List D} {e : Expr} {es : List Expr} {a : MA} {p pos : Pos}
theorem je_make (B : MakeO X.prog X.w X.K X.mg X.base G x c n sh f k dd) (hr : Room (k + 1) X.A) (tk : Takes X (fun c d σ H => E σ c d H)) (ha : JA X G E μ (e :: es) a) (hl : ALen a m') (hn : m' + dd.length = n := by rfl)
    (hg : Gl X x := by rfl) (h0 : (x == ("__debug__" : Str)) = false := by decide) (h1 : starEach (e :: es) X.env = (false, eval e X.env) :: starEach es X.env := by rfl) (h2 : (backTo pos (starEach es X.env)).any (·.1) = false := by rfl) :
    JE X G E (.w sh) μ (.Call (.Name x p) (e :: es) [] pos) (mMake c f dd a) := by
  obtain ⟨t1, p1, s1⟩ := ha.ex
  obtain ⟨A, fd, ps, ds, dvs, g1, g2, g3, g4, g5, g6⟩ := B.ex
  refine ⟨_, pe_makeW g3 g1 hr hg g2 g4 g5 (fun σ => passAt tk σ) p1 h0 h1 h2, fun F S H σ ρ h Q k => s1 F S H σ ρ h _ ?_⟩
  unfold mMake at k
  cases q : a ρ with
  | ok ds ρ1 =>
    rw [q, bind_ok] at k
    intro us S1 H1 e1 hh q1 b dx hb hdx hne
    have nH : (upd H1 dx (.own b)) b = none := by rw [upd_ne (Ne.symm hne)]; exact hb
    have en := (hh.growH (Evl.Ex.new (o := .own b) hdx)).growH (Evl.Ex.new (o := .ins (G.cA c) dx []) nH)
    have Sb : S1 b = none := ex_none hh.sh hb
    have Fb : F b = none := hh.freshF hb
    generalize eH : upd (upd H1 dx (.own b)) b (.ins (G.cA c) dx []) = H2 at en ⊢
    have Hb : H2 b = some (.ins (G.cA c) dx []) := by rw [← eH, upd_same]
    -- the new instance as a lent thing
    have h3 : EnvOk X.K G (F.lend H2 [b]) S1 H2 μ σ ρ1 := by
      obtain ⟨fq, ⟨f1, f2, f3⟩, f4, sl, th⟩ := hh.fps
      have nb : ∀ j v, v ∈ fq j → v ≠ b := fun j v hv z => by
        obtain ⟨o, q, _⟩ := th j v hv
        rw [z, hb] at q
        cases q
      have nd : ∀ j v, v ∈ fq j → v ≠ dx := fun j v hv z => by
        obtain ⟨o, q, _⟩ := th j v hv
        rw [z, hdx] at q
        cases q
      refine ⟨en.sh, fun v o z => ?_, en.ls, en.lr, fq, ⟨fun j v hv => ⟨(f1 j v hv).1, by rw [Fo.lend_out (by simpa using nb j v hv)]; exact (f1 j v hv).2⟩, f2, f3⟩, f4, fun j m z => (sl j m z).mono (Evl.Ex.refl S1) fun v hv => by rw [← eH, upd_ne (nb j v hv), upd_ne (nd j v hv)]⟩
      by_cases zb : v = b
      · subst zb
        rw [Fo.lend_in (by simp)] at z
        exact ⟨(ntOnly_some z).1, Sb⟩
      · rw [Fo.lend_out (by simpa using zb)] at z
        exact en.fk v o z
    have fpb : Fp F S1 H2 [b] := ⟨by simp, fun v hv => by rw [List.mem_singleton.mp hv]; exact ⟨Sb, Fb⟩, fun v hv => by rw [List.mem_singleton.mp hv]; exact ⟨_, Hb, rfl⟩⟩
    have ow : Ow X.K G S1 H2 false (.i c .nil) [.ref b] [.ins c []] [b] := .ins (ks := []) (vs := []) (ds := []) Hb rfl .nil
    have h4 : EnvOk X.K G F S1 H2 (.w (.i c .nil) :: μ) (some (.ref b) :: σ) (.ins c [] :: ρ1) := h3.joinS fpb ⟨b, rfl, ow⟩
    refine ⟨⟨restB H2 S1 [b], fun _ => b, restB_nt⟩, S1, b, us ++ dvs, .ins c [], ds ++ dd, [b], rfl, by rw [List.length_append, hl ρ ds ρ1 q, hn], q1.append (g6 S1), en.sh, fun v o z => ⟨(restB_some z).1, (restB_some z).2.1⟩, ⟨fpb.nd, fun v hv => ⟨(fpb.fr v hv).1, if_pos hv⟩, fpb.th⟩, ow, rfl, ?_⟩
    have k1 := EOk.mono e1 k
    have h5 : EnvOk X.K G (F.lend H2 [b]) S1 H2 ((.w (.i c .nil) :: μ).set 0 .x) (some (.ref b) :: σ) (.ins c [] :: ρ1) := by
      obtain ⟨sh', fk', ls', lr', fq', ⟨u1, u2, u3⟩, u4, u5⟩ := h3
      refine ⟨sh', fk', by simp [ls'], by simp [lr'], fun j => match j with | 0 => [] | j + 1 => fq' j, ⟨?_, ?_, ?_⟩, ?_, ?_⟩
      · intro j v hv
        cases j with
        | zero => cases hv
        | succ j => exact u1 j v hv
      · intro j l v hv hw
        cases j with
        | zero => cases hv
        | succ j =>
          cases l with
          | zero => cases hw
          | succ l => exact congrArg (· + 1) (u2 j l v hv hw)
      · intro j
        cases j with
        | zero => exact List.nodup_nil
        | succ j => exact u3 j
      · intro j hj
        cases j with
        | zero => rfl
        | succ j => exact u4 j (by simpa using hj)
      · intro j m z
        cases j with
        | zero =>
          simp only [List.set_cons_zero, List.getElem?_cons_zero, Option.some.injEq] at z
          subst z
          rfl
        | succ j =>
          have := u5 j m (by simpa using z)
          simpa using this
    cases q2 : f (.ins c [] :: (ds ++ dd)) with
    | bad => rw [q2] at k1; exact k1
    | ok d d1 =>
      rw [q2] at k1
      intro v S2 H3 e3 z
      cases d with
      | non =>
        obtain ⟨fq, ⟨f1, f2, f3⟩, f4, s2, th⟩ := z.fps
        have sB := s2 1 (.s 0 sh) rfl
        have sA := z.head
        simp only [List.getElem?_cons_zero, List.getElem?_cons_succ, List.getD_cons_zero, List.getD_cons_succ] at sB
        obtain ⟨_, g⟩ := h4.backB (i := 0) (m := .w (.i c .nil)) rfl h5 fpb e3 z
        obtain ⟨y1, y2⟩ := g (fq 1) (f1 1) (th 1) (f3 1)
        have y3 := y2.tail.joinS (m := .w sh) (sv := some (.ref b)) (d := d1) y1 ⟨b, rfl, sB.2⟩
        exact ⟨(by cases sA; rfl), k1 _ S2 H3 e3 y3⟩
      | _ => exact k1.elim
    | exc er d1 =>
      rw [q2] at k1
      intro cc dct S2 H3 e3 z er'
      obtain ⟨g, _⟩ := h4.backB (i := 0) (m := .w (.i c .nil)) rfl h5 fpb e3 z
      exact k1 cc dct S2 H3 e3 g.tail er'
  | exc e ρ1 => rw [q] at k; exact k
  | bad => rw [q] at k; exact k
end
end
end MR

set_option Elab.async false
set_option linter.all false
set_option maxRecDepth 100000
set_option maxHeartbeats 1000000
/-! MB16: fields of instances, what an owned thing holds (its kids). -/
namespace MR
open PySem L2 PySem.Spec PyProof.Rows
section
variable {K : PySem.W.Frag} {G : Cl} {E : XS} {C : SC} {μ μ' μ1 : List Mode} {r : Mode} {X : Cx} {F : Fo} {S S' H H' : Hp} {σ : L2.St} {ρ : List D}
/-! ### rows -/
def Sh.at : Sh → Nat → Option Sh
  | .cons s _, 0 => some s
  | .cons _ row, j + 1 => row.at j
  | .all s, _ => some s
  | _, _ => none
def Sh.snoc : Sh → Sh → Sh
  | .cons a row, s => .cons a (row.snoc s)
  | _, s => .cons s .nil
def Sh.fin : Sh → Bool
  | .nil => true
  | .cons _ row => row.fin
  | _ => false
theorem Ow.at {q : Bool} {row : Sh} {vs : List V} {ds : List D} {fp : List Addr} (h : Ow K G S H q row vs ds fp) : ∀ {j : Nat} {s1 : Sh} {d1 : D}, q = true → row.at j = some s1 → ds[j]? = some d1 → fp.Nodup →
    ∃ v f1, vs[j]? = some v ∧ Ow K G S H false s1 [v] [d1] f1 ∧ (∀ a ∈ f1, a ∈ fp) ∧ f1.Nodup ∧ ∀ S' H' d2, Ex S S' → (∀ a ∈ fp, a ∉ f1 → H' a = H a) → Ow K G S' H' false s1 [v] [d2] f1 → Ow K G S' H' true row vs (ds.set j d2) fp := by
  induction h with
  | @cons s row v d vs ds f1 f2 a1 a2 i1 i2 =>
    intro j s1 d1 _ e1 e2 nd
    obtain ⟨n1, n2, n3⟩ := List.nodup_append.mp nd
    cases j with
    | zero =>
      cases e1
      cases e2
      refine ⟨v, f1, rfl, a1, fun a ha => List.mem_append_left _ ha, n1, fun S' H' d2 e k w => .cons w (a2.mono e fun a ha => k a (List.mem_append_right _ ha) fun hb => n3 a hb a ha rfl)⟩
    | succ j =>
      obtain ⟨v1, g1, h1, h2, h3, h4, h5⟩ := i2 rfl e1 (by simpa using e2) n2
      refine ⟨v1, g1, by simpa using h1, h2, fun a ha => List.mem_append_right _ (h3 a ha), h4, fun S' H' d2 e k w => ?_⟩
      exact .cons (a1.mono e fun a ha => k a (List.mem_append_left _ ha) fun hb => n3 a ha a (h3 a hb) rfl) (h5 S' H' d2 e (fun a ha hb => k a (List.mem_append_right _ ha) hb) w)
  | @all s v d vs ds f1 f2 a1 a2 i1 i2 =>
    intro j s1 d1 _ e1 e2 nd
    obtain ⟨n1, n2, n3⟩ := List.nodup_append.mp nd
    cases j with
    | zero =>
      cases e1
      cases e2
      refine ⟨v, f1, rfl, a1, fun a ha => List.mem_append_left _ ha, n1, fun S' H' d2 e k w => .all w (a2.mono e fun a ha => k a (List.mem_append_right _ ha) fun hb => n3 a hb a ha rfl)⟩
    | succ j =>
      obtain ⟨v1, g1, h1, h2, h3, h4, h5⟩ := i2 (j := j) (s1 := s1) rfl (by cases e1; cases j <;> rfl) (by simpa using e2) n2
      refine ⟨v1, g1, by simpa using h1, h2, fun a ha => List.mem_append_right _ (h3 a ha), h4, fun S' H' d2 e k w => ?_⟩
      exact .all (a1.mono e fun a ha => k a (List.mem_append_left _ ha) fun hb => n3 a ha a (h3 a hb) rfl) (h5 S' H' d2 e (fun a ha hb => k a (List.mem_append_right _ ha) hb) w)
  | nil => intro j s1 d1 q e1 e2; simp at e2
  | all0 => intro j s1 d1 q e1 e2; simp at e2
  | _ => intro j s1 d1 q; cases q
theorem Ow.snoc {q : Bool} {row : Sh} {vs : List V} {ds : List D} {fp : List Addr} (h : Ow K G S H q row vs ds fp) : ∀ {s : Sh} {v : V} {d : D} {f1 : List Addr}, q = true → row.fin = true → Ow K G S H false s [v] [d] f1 → Ow K G S H true (row.snoc s) (vs ++ [v]) (ds ++ [d]) (fp ++ f1) := by
  induction h with
  | nil =>
    intro s v d f1 _ _ w
    have := Ow.cons w (Ow.nil (K := K) (G := G) (S := S) (H := H))
    rw [List.append_nil] at this
    exact this
  | cons a1 a2 _ i2 =>
    intro s v d f1 _ fi w
    have := Ow.cons a1 (i2 rfl fi w)
    rw [← List.append_assoc] at this
    exact this
  | all0 => intro s v d f1 _ fi w; cases fi
  | all _ _ _ _ => intro s v d f1 _ fi w; cases fi
  | _ => intro s v d f1 q; cases q
/-! ### fields by name -/
def fldAt (f : Str) (j : Nat) (fs : List (Str × D)) : Bool := ((fs.take j).lookup f).isNone && decide ((fs[j]?).map (·.1) = some f)
theorem fldAt_lookup {f : Str} : ∀ {j : Nat} {ks : List Str} {vs : List V} {ds : List D}, fldAt f j (ks.zip ds) = true → ks.length = vs.length → vs.length = ds.length → (ks.zip vs).lookup f = vs[j]?
  | j, [], vs, ds, h, _, _ => by simp [fldAt] at h
  | j, k :: ks, [], ds, h, l, _ => by simp at l
  | j, k :: ks, v :: vs, [], h, _, l => by simp at l
  | 0, k :: ks, v :: vs, d :: ds, h, _, _ => by
    simp [fldAt] at h
    subst h
    simp [List.lookup]
  | j + 1, k :: ks, v :: vs, d :: ds, h, l1, l2 => by
    simp only [fldAt, List.zip_cons_cons, List.take_succ_cons, List.lookup, List.getElem?_cons_succ, Bool.and_eq_true] at h
    simp only [List.zip_cons_cons, List.lookup, List.getElem?_cons_succ]
    cases q : f == k with
    | true => rw [q] at h; simp at h
    | false =>
      rw [q] at h
      exact fldAt_lookup (ks := ks) (vs := vs) (ds := ds) (by unfold fldAt; rw [Bool.and_eq_true]; exact h) (by simpa using l1) (by simpa using l2)
/-- x.f, x data -/
def fFld (c : Nat) (f : Str) : D → Option D
  | .ins c' fs => if c = c' then fs.lookup f else none
  | _ => none
theorem lookup_dat {f : Str} : ∀ {ks : List Str} {vs : List V} {ds : List D} {d : D}, ks.length = vs.length → DatL K G S vs ds → (ks.zip ds).lookup f = some d → ∃ v, (ks.zip vs).lookup f = some v ∧ Dat K G S v d
  | [], _, _, _, _, _, h => by simp [List.lookup] at h
  | k :: ks, _, _, _, l, .nil, h => by simp at l
  | k :: ks, v :: vs, e :: ds, d, l, .cons q t, h => by
    simp only [List.zip_cons_cons, List.lookup] at h ⊢
    cases z : f == k with
    | true =>
      rw [z] at h
      cases h
      exact ⟨v, rfl, q⟩
    | false =>
      rw [z] at h
      exact lookup_dat (by simpa using l) t h
theorem je_fld {c : Nat} {f : Str} {o : Expr} {mo : ME} {pos : Pos} (ho : JE X G E .d μ o mo) (cl : ClsO X.K G c) (no : FldO X.K G c f) (hb : attributeBase o f X.env (eval o X.env) = eval o X.env := by rfl) : JE X G E .d μ (.Attribute o f pos) (mUn (fFld c f) mo) := by
  obtain ⟨t0, p0, s0⟩ := ho.ex
  refine ⟨_, pe_fld p0 hb, fun F S H σ ρ h Q k => s0 F S H σ ρ h _ ?_⟩
  unfold mUn at k
  cases q0 : mo ρ with
  | ok x ρ1 =>
    rw [q0, bind_ok] at k
    intro v S1 H1 e1 h1
    have k1 := EOk.mono e1 k
    have hd := h1.head
    cases hd with
    | @ins b dx c' ks vs ds0 a1 a2 a3 =>
      have k2 : EOk X.K G E .d μ F S1 σ Q (RR.of (if c = c' then (ks.zip ds0).lookup f else none) ρ1) := k1
      clear k1
      split at k2
      · rename_i ec
        subst ec
        cases q1 : (ks.zip ds0).lookup f with
        | none => rw [q1] at k2; exact k2.elim
        | some d =>
          rw [q1] at k2
          obtain ⟨v, z1, z2⟩ := lookup_dat a2 a3 q1
          exact ⟨b, _, dx, _, v, rfl, h1.sh _ _ a1, cl.cl, no.no, z1, k2 _ S1 H1 (Evl.Ex.refl S1) (h1.tail.push z2)⟩
      · exact k2.elim
    | _ => exact k1.elim
  | exc e ρ1 => rw [q0] at k; exact k
  | bad => rw [q0] at k; exact k
/-! ### kids -/
def kids : D → List D
  | .ins _ fs => fs.map (·.2)
  | .lst ds => ds
  | _ => []
def putKid : D → Nat → D → D
  | .ins c fs, j, d => .ins c ((fs.map (·.1)).zip ((fs.map (·.2)).set j d))
  | .lst ds, j, d => .lst (ds.set j d)
  | d, _, _ => d
def rowOf : Sh → Option Sh
  | .l row => some row
  | .i _ row => some row
  | _ => none
def ObjAt (G : Cl) (H : Hp) : Sh → Addr → List V → D → Prop
  | .i c _, p, vs, d => ∃ (dx : Addr) (ks : List Str) (ds : List D), H p = some (.ins (G.cA c) dx (ks.zip vs)) ∧ ks.length = vs.length ∧ vs.length = ds.length ∧ d = .ins c (ks.zip ds)
  | .l _, p, vs, d => H p = some (.lst vs)
  | _, _, _, _ => False
theorem zip_fst {α : Type} {ks : List Str} {ds : List α} (h : ks.length = ds.length) : (ks.zip ds).map (·.1) = ks := by
  rw [List.map_fst_zip (by omega)]
theorem zip_snd {α : Type} {ks : List Str} {ds : List α} (h : ks.length = ds.length) : (ks.zip ds).map (·.2) = ds := by
  rw [List.map_snd_zip (by omega)]
/-- an owned thing: its kids' row, and how it is with other kids -/
theorem Ow.parts {sh row : Sh} {p : Addr} {d : D} {fp : List Addr} (h : Ow K G S H false sh [.ref p] [d] fp) (e : rowOf sh = some row) : ∃ vs fq, fp = p :: fq ∧ Ow K G S H true row vs (kids d) fq ∧ ObjAt G H sh p vs d ∧
    ∀ S' H' j d2, H' p = H p → Ow K G S' H' true row vs ((kids d).set j d2) fq → Ow K G S' H' false sh [.ref p] [putKid d j d2] fp := by
  cases h with
  | lst a1 a2 =>
    cases e
    refine ⟨_, _, rfl, a2, a1, fun S' H' j d2 k w => .lst (k.trans a1) w⟩
  | @ins _ dx c row ks vs ds fq a1 a2 a3 =>
    cases e
    have l := a3.length
    have e1 : kids (.ins c (ks.zip ds)) = ds := zip_snd (a2.trans l)
    refine ⟨vs, _, rfl, by rw [e1]; exact a3, ⟨dx, ks, ds, a1, a2, l, rfl⟩, fun S' H' j d2 k w => ?_⟩
    rw [e1] at w
    show Ow K G S' H' false (.i c row) [.ref p] [.ins c (((ks.zip ds).map (·.1)).zip (((ks.zip ds).map (·.2)).set j d2))] _
    rw [zip_fst (a2.trans l), zip_snd (a2.trans l)]
    exact .ins (k.trans a1) a2 w
  | dat _ => cases e
  | dk _ _ _ => cases e
  | dt _ _ _ => cases e
/-- a kid that is data -/
theorem EnvOk.kidD {i j : Nat} {mo : Mode} {sh row : Sh} {d1 : D} (h : EnvOk K G F S H μ σ ρ) (hm : μ[i]? = some mo) (hs : shS mo sh = true) (hk : kindOk sh (ρ.getD i .non) = true) (hr : rowOf sh = some row) (ha : row.at j = some .d) (hd : (kids (ρ.getD i .non))[j]? = some d1) :
    ∃ p vs v, σ[i]? = some (some (.ref p)) ∧ ObjAt G H sh p vs (ρ.getD i .non) ∧ vs[j]? = some v ∧ Dat K G S v d1 := by
  obtain ⟨fp, sl, fo, _⟩ := h.lend hm
  obtain ⟨p, hp, ow, _⟩ := slot_ow sl hs hk
  obtain ⟨vs, fq, rfl, w, ob, _⟩ := ow.parts hr
  obtain ⟨v, f1, z1, z2, _⟩ := w.at rfl ha hd (List.nodup_cons.mp fo.nd).2
  cases z2 with
  | dat q => exact ⟨p, vs, v, hp, ob, z1, q⟩
def flat1 : Sh → Bool
  | .l (.all .d) => true
  | .dk => true
  | .dt => true
  | _ => false
theorem Ow.one {s1 : Sh} {v : V} {d : D} {fp : List Addr} (h : Ow K G S H false s1 [v] [d] fp) (e : flat1 s1 = true) : ∃ q, v = .ref q ∧ fp = [q] := by
  cases h with
  | dat _ => cases e
  | @lst p row vs ds fq a1 a2 =>
    have : row = .all .d := by
      unfold flat1 at e
      split at e
      · rename_i q; cases q; rfl
      · rename_i q; cases q
      · rename_i q; cases q
      · cases e
    subst this
    exact ⟨p, rfl, by rw [a2.flat.1]⟩
  | ins _ _ _ => cases e
  | dk _ _ _ => exact ⟨_, rfl, rfl⟩
  | dt _ _ _ => exact ⟨_, rfl, rfl⟩
/-- a kid that is owned and flat: others may reckon meanwhile, then it may be changed -/
theorem EnvOk.kid {i j : Nat} {mo : Mode} {sh row s1 : Sh} {d1 : D} (h : EnvOk K G F S H μ σ ρ) (hm : μ[i]? = some mo) (hs : shS mo sh = true) (hk : kindOk sh (ρ.getD i .non) = true) (hr : rowOf sh = some row) (ha : row.at j = some s1) (hf : flat1 s1 = true) (hd : (kids (ρ.getD i .non))[j]? = some d1) :
    ∃ p vs q fp, σ[i]? = some (some (.ref p)) ∧ ObjAt G H sh p vs (ρ.getD i .non) ∧ vs[j]? = some (.ref q) ∧ Ow K G S H false s1 [.ref q] [d1] [q] ∧ EnvOk K G (F.lend H fp) S H (μ.set i .x) σ ρ ∧ q ∈ fp ∧
      ∀ S2 H2 ρ2, Ex S S2 → EnvOk K G (F.lend H fp) S2 H2 (μ.set i .x) σ ρ2 → Ow K G S2 H2 false s1 [.ref q] [d1] [q] ∧ EnvOk K G F S2 H2 μ σ (ρ2.set i (ρ.getD i .non)) ∧
        ∀ o d2, Ow K G S2 (upd H2 q o) false s1 [.ref q] [d2] [q] → EnvOk K G F S2 (upd H2 q o) μ σ (ρ2.set i (putKid (ρ.getD i .non) j d2)) := by
  obtain ⟨fp, sl, fo, hl⟩ := h.lend hm
  have hi : i < μ.length := (List.getElem?_eq_some_iff.mp hm).1
  obtain ⟨p, hp, ow, back⟩ := slot_ow sl hs hk
  obtain ⟨vs, fq, rfl, w, ob, re⟩ := ow.parts hr
  obtain ⟨n1, n2⟩ := List.nodup_cons.mp fo.nd
  obtain ⟨v, f1, z1, z2, z3, z4, z5⟩ := w.at rfl ha hd n2
  obtain ⟨q, rfl, rfl⟩ := z2.one hf
  have hq : q ∈ fq := z3 q (List.mem_singleton.mpr rfl)
  refine ⟨p, vs, q, p :: fq, hp, ob, z1, z2, hl, List.mem_cons_of_mem _ hq, fun S2 H2 ρ2 ex h2 => ?_⟩
  have st : ∀ a ∈ p :: fq, H2 a = H a ∧ S2 a = none := fun a ha => by
    obtain ⟨o, e, nt0⟩ := fo.th a ha
    have := h2.fk a o (by rw [Fo.lend_in ha, e, ntOnly_of nt0])
    exact ⟨this.1.trans e.symm, this.2⟩
  have f2 : Fp F S2 H (p :: fq) := ⟨fo.nd, fun a ha => ⟨(st a ha).2, (fo.fr a ha).2⟩, fo.th⟩
  have e3 : (μ.set i .x).set i mo = μ := set_back hm
  have e4 : μ.set i mo = μ := by rw [List.set_set] at e3; exact e3
  refine ⟨z2.mono ex fun a ha => (st a (List.mem_cons_of_mem _ (z3 a ha))).1, h2.unlend0 hm fo ex sl, fun o d2 w2 => ?_⟩
  have np : p ≠ q := fun z => n1 (z ▸ hq)
  have := h2.unlend (m' := mo) (d' := putKid (ρ.getD i .non) j d2) (H2 := upd H2 q o) (fp' := p :: fq) hi f2 (fun a ha => upd_ne fun z => ha (z ▸ List.mem_cons_of_mem _ hq))
    (back S2 (upd H2 q o) _ _ (re S2 (upd H2 q o) j d2 (by rw [upd_ne np]; exact (st p List.mem_cons_self).1) (z5 S2 (upd H2 q o) d2 ex (fun a ha hb => by rw [upd_ne (fun z => hb (List.mem_singleton.mpr z))]; exact (st a (List.mem_cons_of_mem _ ha)).1) w2))) fo.nd fun a ha => ha
  rw [e4] at this
  exact this
end
end MR

set_option Elab.async false
set_option linter.all false
set_option maxRecDepth 100000
set_option maxHeartbeats 1000000
/-! MB17: places: an owned flat thing in a slot, in a field, in a list; what is done with it. -/
namespace MR
open PySem L2 PySem.Spec PyProof.Rows
section
variable {K : PySem.W.Frag} {G : Cl} {E : XS} {C : SC} {μ μ' μ1 μa : List Mode} {r : Mode} {X : Cx} {F : Fo} {S S' H H' : Hp} {σ : L2.St} {ρ : List D}
/-- rd: what stands there now (ρ: the slots when it was asked, ρ2: the slots now); re: the slots, it being as it was; put: .. it being another -/
structure Pl where
  rd : List D → List D → Option D
  re : List D → List D → List D
  put : List D → List D → D → List D
def plW (i : Nat) (sh : Sh) : Pl := ⟨fun _ ρ2 => if kindOk sh (ρ2.getD i .non) = true then some (ρ2.getD i .non) else none, fun _ ρ2 => ρ2, fun _ ρ2 d => ρ2.set i d⟩
def kidAt (sh : Sh) (f : Str) (j : Nat) (d : D) : Option D := match sh, d with
  | .i c _, .ins c' fs => if c == c' && fldAt f j fs then (fs.map (·.2))[j]? else none
  | .l _, .lst ds => ds[j]?
  | _, _ => none
def plK (i : Nat) (sh : Sh) (f : Str) (j : Nat) : Pl := ⟨fun ρ _ => kidAt sh f j (ρ.getD i .non), fun ρ ρ2 => ρ2.set i (ρ.getD i .non), fun ρ ρ2 d => ρ2.set i (putKid (ρ.getD i .non) j d)⟩
def FlatAt (K : PySem.W.Frag) (G : Cl) (S H : Hp) (s1 : Sh) (q : Addr) (d : D) : Prop := Ow K G S H false s1 [.ref q] [d] [q]
structure PlE (X : Cx) (G : Cl) (μ μa : List Mode) (s1 : Sh) (e : Expr) (p : Pl) : Prop where
  ex : ∃ t, PE X e t ∧ ∀ F S H σ ρ d1, EnvOk X.K G F S H μ σ ρ → p.rd ρ ρ = some d1 → ∃ (q : Addr) (F' : Fo), (∀ Q : VK, Q (.ref q) H → t σ H Q) ∧ FlatAt X.K G S H s1 q d1 ∧ EnvOk X.K G F' S H μa σ ρ ∧
    ∀ S2 H2 ρ2, Ex S S2 → EnvOk X.K G F' S2 H2 μa σ ρ2 → EnvOk X.K G F S2 H2 μ σ (p.re ρ ρ2) ∧ ∀ d2, p.rd ρ ρ2 = some d2 → FlatAt X.K G S2 H2 s1 q d2 ∧ ∀ o d3, FlatAt X.K G S2 (upd H2 q o) s1 q d3 → EnvOk X.K G F S2 (upd H2 q o) μ σ (p.put ρ ρ2 d3)
theorem kindOk_flat {s1 : Sh} {q : Addr} {d : D} {fp : List Addr} (h : Ow K G S H false s1 [.ref q] [d] fp) (e : flat1 s1 = true) : kindOk s1 d = true := by
  cases h <;> first | rfl | (cases e)
theorem owned_ref {pin : Nat → Addr} {mo : Mode} {sv : Option (Option V)} {d : D} {fp : List Addr} (h : SlotOk K G pin S H mo sv d fp) {sh : Sh} (hs : shS mo sh = true) : ∃ p, sv = some (some (.ref p)) := by
  cases mo with
  | w _ => exact let ⟨p, a, _⟩ := h; ⟨p, a⟩
  | s _ _ => exact ⟨_, h.1⟩
  | o => exact let ⟨p, a, _⟩ := h; ⟨p, a⟩
  | _ => cases hs
theorem pl_slot {i : Nat} {mo : Mode} {sh : Sh} {x : Str} {p2 : Pos} (hm : μ[i]? = some mo := by rfl) (hs : shS mo sh = true := by rfl) (hf : flat1 sh = true := by rfl) (hN : X.N[i]? = some x := by rfl) (hx : Vis X.env.scope x := by first | exact Or.inl rfl | exact Or.inr (Or.inl rfl) | exact Or.inr (Or.inr rfl)) (hd : (x == ("__debug__" : Str)) = false := by decide) (hcd : (x == ("__classdict__" : Str)) = false := by decide) :
    PlE X G μ μ sh (.Name x p2) (plW i sh) := by
  refine ⟨_, pe_var hN hx hd hcd, fun F S H σ ρ d1 h e => ?_⟩
  have hi : i < μ.length := (List.getElem?_eq_some_iff.mp hm).1
  have key : ∀ {S H ρ d1} {p : Addr}, EnvOk X.K G F S H μ σ ρ → (plW i sh).rd ρ ρ = some d1 → σ[i]? = some (some (.ref p)) → FlatAt X.K G S H sh p d1 ∧ ∀ o d3, FlatAt X.K G S (upd H p o) sh p d3 → EnvOk X.K G F S (upd H p o) μ σ (ρ.set i d3) := by
    intro S H ρ d1 p h e hp
    have e' : (if kindOk sh (ρ.getD i .non) = true then some (ρ.getD i .non) else none) = some d1 := e
    split at e'
    · rename_i hk
      cases e'
      obtain ⟨fp, sl, fo, hl⟩ := h.lend hm
      obtain ⟨p', hp', ow, back⟩ := slot_ow sl hs hk
      rw [hp] at hp'
      cases hp'
      obtain ⟨q, eq, rfl⟩ := ow.one hf
      cases eq
      refine ⟨ow, fun o d3 w => ?_⟩
      have := hl.unlend (m' := mo) (d' := d3) (H2 := upd H p o) (fp' := [p]) hi fo (fun a ha => upd_ne fun z => ha (by simp [z])) (back S _ d3 [p] w) fo.nd fun a ha => ha
      have e3 : (μ.set i .x).set i mo = μ := set_back hm
      have e4 : μ.set i mo = μ := by rw [List.set_set] at e3; exact e3
      rwa [e4] at this
    · cases e'
  obtain ⟨fp, sl, _, _⟩ := h.lend hm
  obtain ⟨p, hp⟩ := owned_ref sl hs
  obtain ⟨k1, _⟩ := key h e hp
  exact ⟨p, F, fun Q k => ⟨_, hp, k⟩, k1, h, fun S2 H2 ρ2 ex h2 => ⟨h2, fun d2 e2 => key h2 e2 hp⟩⟩
theorem kidAt_kids {sh : Sh} {f : Str} {j : Nat} {d d1 : D} (h : kidAt sh f j d = some d1) : (kids d)[j]? = some d1 ∧ kindOk sh d = true := by
  unfold kidAt at h
  split at h
  · split at h
    · rename_i hc
      simp only [Bool.and_eq_true] at hc
      exact ⟨h, by simpa [kindOk] using hc.1⟩
    · cases h
  · exact ⟨h, rfl⟩
  · cases h
theorem pl_kid {i j : Nat} {f : Str} {mo : Mode} {sh row s1 : Sh} {e : Expr} {t : TE} (pe : PE X e t) (read : ∀ σ H p vs q d d1 Q, σ[i]? = some (some (.ref p)) → ObjAt G H sh p vs d → kidAt sh f j d = some d1 → vs[j]? = some (.ref q) → Q (.ref q) H → t σ H Q)
    (hm : μ[i]? = some mo) (hs : shS mo sh = true) (hr : rowOf sh = some row) (ha : row.at j = some s1) (hf : flat1 s1 = true) : PlE X G μ (μ.set i .x) s1 e (plK i sh f j) := by
  refine ⟨t, pe, fun F S H σ ρ d1 h e => ?_⟩
  obtain ⟨e1, e2⟩ := kidAt_kids e
  obtain ⟨p, vs, q, fp, hp, ob, hq, ow, hl, _, re⟩ := h.kid hm hs e2 hr ha hf e1
  refine ⟨q, _, fun Q k => read σ H p vs q _ d1 Q hp ob e hq k, ow, hl, fun S2 H2 ρ2 ex h2 => ?_⟩
  obtain ⟨r1, r2, r3⟩ := re S2 H2 ρ2 ex h2
  refine ⟨r2, fun d2 e3 => ?_⟩
  have : d2 = d1 := Option.some.inj (e3.symm.trans e)
  subst this
  exact ⟨r1, fun o d3 w => r3 o d3 w⟩
/-- x.f -/
theorem pl_fld {i j c : Nat} {f x : Str} {mo : Mode} {row s1 : Sh} {p2 pos : Pos} (cl : ClsO X.K G c) (no : FldO X.K G c f) (hm : μ[i]? = some mo := by rfl) (hs : shS mo (.i c row) = true := by rfl) (ha : row.at j = some s1 := by rfl) (hf : flat1 s1 = true := by rfl)
    (hN : X.N[i]? = some x := by rfl) (hx : Vis X.env.scope x := by first | exact Or.inl rfl | exact Or.inr (Or.inl rfl) | exact Or.inr (Or.inr rfl)) (hd : (x == ("__debug__" : Str)) = false := by decide) (hcd : (x == ("__classdict__" : Str)) = false := by decide) (hb : attributeBase (.Name x p2) f X.env (eval (.Name x p2) X.env) = eval (.Name x p2) X.env := by rfl) :
    PlE X G μ (μ.set i .x) s1 (.Attribute (.Name x p2) f pos) (plK i (.i c row) f j) := by
  refine pl_kid (pe_fld (pe_var hN hx hd hcd) hb) (fun σ H p vs q d d1 Q hp ob e hq k => ?_) hm hs rfl ha hf
  obtain ⟨dx, ks, ds, h1, h2, h3, rfl⟩ := ob
  have e' : (if c == c && fldAt f j (ks.zip ds) then ((ks.zip ds).map (·.2))[j]? else none) = some d1 := e
  split at e'
  · rename_i hc
    simp only [Bool.and_eq_true] at hc
    exact ⟨_, hp, p, _, dx, _, _, rfl, h1, cl.cl, no.no, (fldAt_lookup hc.2 h2 h3).trans hq, k⟩
  · cases e'
/-- x[j], j written -/
theorem pl_ix {i j : Nat} {x : Str} {jj : Int} {mo : Mode} {row s1 : Sh} {u : Nat} {p2 p3 pos : Pos} (hj : jj = (j : Int) := by rfl) (hm : μ[i]? = some mo := by rfl) (hs : shS mo (.l row) = true := by rfl) (ha : row.at j = some s1 := by rfl) (hf : flat1 s1 = true := by rfl)
    (hN : X.N[i]? = some x := by rfl) (hx : Vis X.env.scope x := by first | exact Or.inl rfl | exact Or.inr (Or.inl rfl) | exact Or.inr (Or.inr rfl)) (hd : (x == ("__debug__" : Str)) = false := by decide) (hcd : (x == ("__classdict__" : Str)) = false := by decide) :
    PlE X G μ (μ.set i .x) s1 (.Subscript (.Name x p2) (.Constant (.int jj) u p3) pos) (plK i (.l row) Str.empty j) := by
  refine pl_kid (pe_ix ix_list (pe_var hN hx hd hcd) pe_int (by intro _ _; rfl)) (fun σ H p vs q d d1 Q hp ob e hq k => ?_) hm hs rfl ha hf
  exact ⟨_, hp, p, _, _, _, rfl, rfl, .inl (.inl ob), by rw [hj, atI_nat]; exact hq, k⟩
end
end MR

set_option Elab.async false
set_option linter.all false
set_option maxRecDepth 100000
set_option maxHeartbeats 1000000
/-! MB18: methods of lists that stand at places; fields that are data; new fields. -/
namespace MR
open PySem L2 PySem.Spec PyProof.Rows
section
variable {K : PySem.W.Frag} {G : Cl} {E : XS} {C : SC} {μ μ' μ1 μa : List Mode} {r : Mode} {X : Cx} {F : Fo} {S S' H H' : Hp} {σ : L2.St} {ρ : List D}
/-! ### a method of what stands at a place -/
/-- g: what stands there and the arguments give the result and what stands there then (none: the same) -/
def mPM (p : Pl) (a : MA) (g : D → List D → Option (D × Option D)) : ME := fun ρ => match p.rd ρ ρ with
  | none => .bad
  | some _ => match a ρ with
    | .ok ds ρ1 => match p.rd ρ ρ1 with
      | none => .bad
      | some c => match g c ds with
        | none => .bad
        | some (z, none) => .ok z (p.re ρ ρ1)
        | some (z, some c2) => .ok z (p.put ρ ρ1 c2)
    | .exc e ρ1 => .exc e (p.re ρ ρ1)
    | .bad => .bad
structure OpM (K : PySem.W.Frag) (G : Cl) (s1 : Sh) (pre : V → Hp → Prop) (R : V → List V → Hp → VK → Prop) (g : D → List D → Option (D × Option D)) : Prop where
  pre : ∀ S H q c, FlatAt K G S H s1 q c → pre (.ref q) H
  go : ∀ S H q c ds vs z oc, Ex S H → FlatAt K G S H s1 q c → DatL K G S vs ds → g c ds = some (z, oc) → ∀ Q : VK, (match oc with
    | none => ∀ w, Dat K G S w z → Q w H
    | some c2 => ∀ o w, FlatAt K G S (upd H q o) s1 q c2 → Dat K G S w z → Q w (upd H q o)) → R (.ref q) vs H Q
theorem se_pM {s1 : Sh} {e : Expr} {p : Pl} {pre : V → Hp → Prop} {R : V → List V → Hp → VK → Prop} {g : D → List D → Option (D × Option D)} {a : MA} {ta : TA} (P : PlE X G μ μa s1 e p) (op : OpM X.K G s1 pre R g) (sa : SA X.K G E μa ta a) :
    ∃ t, PE X e t ∧ SE X.K G E .d μ (fun σ H Q => t σ H fun x H1 => pre x H1 ∧ ta σ H1 fun vs H2 => R x vs H2 Q) (mPM p a g) := by
  obtain ⟨t, pe, go⟩ := P.ex
  refine ⟨t, pe, fun F S H σ ρ h Q k => ?_⟩
  unfold mPM at k
  cases q1 : p.rd ρ ρ with
  | none => rw [q1] at k; exact k.elim
  | some d1 =>
    rw [q1] at k
    dsimp only at k
    obtain ⟨q, F', read, fl, h', re⟩ := go F S H σ ρ d1 h q1
    refine read _ ⟨op.pre S H q d1 fl, sa F' S H σ ρ h' _ ?_⟩
    cases q2 : a ρ with
    | ok ds ρ1 =>
      rw [q2] at k
      dsimp only at k
      intro vs S2 H2 e2 h2 q3
      obtain ⟨r1, r2⟩ := re S2 H2 ρ1 e2 h2
      cases q4 : p.rd ρ ρ1 with
      | none => rw [q4] at k; exact k.elim
      | some c =>
        rw [q4] at k
        dsimp only at k
        obtain ⟨f2, f3⟩ := r2 c q4
        cases q5 : g c ds with
        | none => rw [q5] at k; exact k.elim
        | some zo =>
          rw [q5] at k
          obtain ⟨z, oc⟩ := zo
          refine op.go S2 H2 q c ds vs z oc h2.sh f2 q3 q5 Q ?_
          cases oc with
          | none => exact fun w dw => k w S2 H2 e2 (r1.push dw)
          | some c2 => exact fun o w f4 dw => k w S2 _ e2 ((f3 o c2 f4).push dw)
    | exc e ρ1 =>
      rw [q2] at k
      dsimp only at k
      exact fun c dct S2 H2 e2 h2 z => k c dct S2 H2 e2 (re S2 H2 ρ1 e2 h2).1 z
    | bad => rw [q2] at k; exact k
theorem je_pM {s1 : Sh} {e a0 : Expr} {es : List Expr} {p : Pl} {R : V → List V → Hp → VK → Prop} {g : D → List D → Option (D × Option D)} {a : MA} {name : Str} {ap cp : Pos} {T id : String} (pa : PlainAttrs T) (slot : Slot T name id) (hty : typeOf (.builtin id) = pure (.type "method_descriptor")) (hm : MtR X id R)
    (P : PlE X G μ μa s1 e p) (op : OpM X.K G s1 (tyV X.K T) R g) (ha : JA X G E μa (a0 :: es) a)
    (hb : attributeBase e name X.env (eval e X.env) = eval e X.env := by rfl)
    (hf : ((backTo cp (starEach (a0 :: es) X.env)).all (fun x => !x.1) && (backToKw cp (keywordEach [] X.env)).all (fun x => x.1.isSome) && decide ((a0 :: es).length + ([] : List Keyword).length + (if ([] : List Keyword).isEmpty then 0 else 1) < 30)) = true := by rfl)
    (hl : (ap.endLine == cp.line) = true := by rfl) (hs : starEach (a0 :: es) X.env = (false, eval a0 X.env) :: starEach es X.env := by rfl) (hp : (backTo cp (starEach es X.env)).any (·.1) = false := by rfl) :
    JE X G E .d μ (.Call (.Attribute e name ap) (a0 :: es) [] cp) (mPM p a g) := by
  obtain ⟨ta, p1, s1'⟩ := ha.ex
  obtain ⟨t, pe, se⟩ := se_pM P op s1'
  exact ⟨_, pe_bm pa slot hty hm pe p1 hb hf hl hs hp, se⟩
theorem je_pM0 {s1 : Sh} {e : Expr} {p : Pl} {R : V → List V → Hp → VK → Prop} {g : D → List D → Option (D × Option D)} {name : Str} {ap cp : Pos} {T id : String} (pa : PlainAttrs T) (slot : Slot T name id) (hty : typeOf (.builtin id) = pure (.type "method_descriptor")) (hm : MtR X id R)
    (P : PlE X G μ μa s1 e p) (op : OpM X.K G s1 (tyV X.K T) R g) (hb : attributeBase e name X.env (eval e X.env) = eval e X.env := by rfl) (hl : (ap.endLine == cp.line) = true := by rfl) :
    JE X G E .d μ (.Call (.Attribute e name ap) [] [] cp) (mPM p mNil g) := by
  obtain ⟨t, pe, se⟩ := se_pM (a := mNil) (ta := tNil) (E := E) P op (fun F S H σ ρ h Q k => k [] S H (Evl.Ex.refl S) h .nil)
  exact ⟨_, pe_bm0 pa slot hty hm pe hb hl, se⟩
/-! ### lists -/
abbrev shL : Sh := .l (.all .d)
theorem FlatAt.lst {q : Addr} {c : D} (h : FlatAt K G S H shL q c) : ∃ vs ds, c = .lst ds ∧ H q = some (.lst vs) ∧ DatL K G S vs ds := by
  cases h with
  | lst a1 a2 => exact ⟨_, _, rfl, a1, a2.flat.2⟩
theorem FlatAt.mk {q : Addr} {vs : List V} {ds : List D} (h : H q = some (.lst vs)) (q2 : DatL K G S vs ds) : FlatAt K G S H shL q (.lst ds) := Ow.lst h q2.all
theorem FlatAt.up {q : Addr} {vs : List V} {ds : List D} (q2 : DatL K G S vs ds) : FlatAt K G S (upd H q (.lst vs)) shL q (.lst ds) := .mk upd_same q2
theorem ty_list {q : Addr} {c : D} (h : FlatAt K G S H shL q c) : tyV K "list" (.ref q) H := by
  obtain ⟨vs, ds, _, a1, _⟩ := h.lst
  exact .inl ⟨rfl, vs, .inl (.inl a1)⟩
theorem DatL.erase : ∀ {vs : List V} {ds : List D} (n : Nat), DatL K G S vs ds → DatL K G S (vs.eraseIdx n) (ds.eraseIdx n)
  | _, _, _, .nil => .nil
  | _, _, 0, .cons _ t => t
  | _, _, n + 1, .cons q t => .cons q (DatL.erase n t)
theorem DatL.rev : ∀ {vs : List V} {ds : List D}, DatL K G S vs ds → DatL K G S vs.reverse ds.reverse
  | _, _, .nil => .nil
  | _, _, .cons q t => by
    rw [List.reverse_cons, List.reverse_cons]
    exact (DatL.rev t).append (.cons q .nil)
def gAppend : D → List D → Option (D × Option D)
  | .lst ds, [d] => if ds.length < 1000000 then some (.non, some (.lst (ds ++ [d]))) else none
  | _, _ => none
theorem om_append : OpM K G shL (tyV K "list") rAppend gAppend := by
  refine ⟨fun S H q c => ty_list, fun S H q c ds vs z oc ex fl dl e Q k => ?_⟩
  obtain ⟨xs, es, rfl, a1, a2⟩ := fl.lst
  match ds, dl, e with
  | [d], .cons (v := v) q1 .nil, e =>
    have e' : (if es.length < 1000000 then some (D.non, some (D.lst (es ++ [d]))) else none) = some (z, oc) := e
    split at e'
    · cases e'
      exact ⟨q, xs, v, rfl, rfl, a1, lt_line (by rw [a2.length]; assumption), k _ _ (.up (a2.append (.cons q1 .nil))) .non⟩
    · cases e'
def gExtend : D → List D → Option (D × Option D)
  | .lst ds, [.lst es] => if ds.length + es.length ≤ sizeLine then some (.non, some (.lst (ds ++ es))) else none
  | _, _ => none
theorem om_extend : OpM K G shL (tyV K "list") rExtend gExtend := by
  refine ⟨fun S H q c => ty_list, fun S H q c ds vs z oc ex fl dl e Q k => ?_⟩
  obtain ⟨xs, es, rfl, a1, a2⟩ := fl.lst
  match ds, dl, e with
  | [.lst d], .cons (v := v) q1 .nil, e =>
    have e' : (if es.length + d.length ≤ sizeLine then some (D.non, some (D.lst (es ++ d))) else none) = some (z, oc) := e
    split at e'
    · rename_i hl
      cases e'
      cases q1 with
      | lst b1 b2 => exact ⟨q, _, xs, _, rfl, rfl, a1, ex _ _ b1, by rw [a2.length, b2.length]; exact hl, k _ _ (.up (a2.append b2)) .non⟩
    · cases e'
def gPop0 : D → List D → Option (D × Option D)
  | .lst ds, [] => (ds[ds.length - 1]?).map fun d => (d, some (.lst ds.dropLast))
  | _, _ => none
theorem om_pop0 : OpM K G shL (tyV K "list") rPop gPop0 := by
  refine ⟨fun S H q c => ty_list, fun S H q c ds vs z oc ex fl dl e Q k => ?_⟩
  obtain ⟨xs, es, rfl, a1, a2⟩ := fl.lst
  match ds, dl, e with
  | [], .nil, e =>
    have e' : (es[es.length - 1]?).map (fun d => (d, some (D.lst es.dropLast))) = some (z, oc) := e
    cases q1 : es[es.length - 1]? with
    | none => rw [q1] at e'; cases e'
    | some d =>
      rw [q1] at e'
      cases e'
      obtain ⟨v, h1, h2⟩ := a2.get q1
      refine ⟨q, xs, v, rfl, rfl, a1, by rw [a2.length]; exact h1, k _ v (.up ?_) h2⟩
      rw [List.dropLast_eq_take, List.dropLast_eq_take, a2.length]
      exact a2.take _
def gPopAt : D → List D → Option (D × Option D)
  | .lst ds, [.int i] => if ds.length ≤ 1000000000 then (ixN ds.length i).bind fun j => (ds[j]?).map fun d => (d, some (.lst (ds.eraseIdx j))) else none
  | _, _ => none
theorem om_popAt : OpM K G shL (tyV K "list") rPopAt gPopAt := by
  refine ⟨fun S H q c => ty_list, fun S H q c ds vs z oc ex fl dl e Q k => ?_⟩
  obtain ⟨xs, es, rfl, a1, a2⟩ := fl.lst
  match ds, dl, e with
  | [.int i], .cons (v := v) q1 .nil, e =>
    cases q1
    have e' : (if es.length ≤ 1000000000 then (ixN es.length i).bind fun j => (es[j]?).map fun d => (d, some (D.lst (es.eraseIdx j))) else none) = some (z, oc) := e
    split at e'
    · rename_i hl
      cases q2 : ixN es.length i with
      | none => rw [q2] at e'; cases e'
      | some j =>
        rw [q2] at e'
        simp only [Option.bind_some] at e'
        cases q3 : es[j]? with
        | none => rw [q3] at e'; cases e'
        | some d =>
          rw [q3] at e'
          cases e'
          obtain ⟨v, h1, h2⟩ := a2.get q3
          obtain ⟨w1, w2, w3, w4⟩ := ixN_seq q2
          refine ⟨q, xs, i, j, v, rfl, rfl, a1, by omega, by omega, by rw [a2.length]; exact w1, h1, k _ v (.up (a2.erase j)) h2⟩
    · cases e'
def gInsert : D → List D → Option (D × Option D)
  | .lst ds, [.int i, d] => if ds.length < 1000000 ∧ 0 ≤ i ∧ i ≤ 1000000 then some (.non, some (.lst (ds.take i.toNat ++ [d] ++ ds.drop i.toNat))) else none
  | _, _ => none
abbrev rInsert : V → List V → Hp → VK → Prop := fun x vs H Q => ∃ (l : Addr) (xs : List V) (i : Int) (y : V), x = .ref l ∧ vs = [.int i, y] ∧ H l = some (.lst xs) ∧ xs.length < sizeLine ∧ 0 ≤ i ∧ i < 2 ^ 63 ∧ Q .non (upd H l (.lst (xs.take i.toNat ++ [y] ++ xs.drop i.toNat)))
theorem om_insert : OpM K G shL (tyV K "list") rInsert gInsert := by
  refine ⟨fun S H q c => ty_list, fun S H q c ds vs z oc ex fl dl e Q k => ?_⟩
  obtain ⟨xs, es, rfl, a1, a2⟩ := fl.lst
  match ds, dl, e with
  | [.int i, d], .cons q1 (.cons (v := v) q2 .nil), e =>
    cases q1
    have e' : (if es.length < 1000000 ∧ 0 ≤ i ∧ i ≤ 1000000 then some (D.non, some (D.lst (es.take i.toNat ++ [d] ++ es.drop i.toNat))) else none) = some (z, oc) := e
    split at e'
    · rename_i hc
      cases e'
      exact ⟨q, xs, i, v, rfl, rfl, a1, lt_line (by rw [a2.length]; exact hc.1), hc.2.1, by omega, k _ _ (.up (((a2.take _).append (.cons q2 .nil)).append (a2.drop _))) .non⟩
    · cases e'
def gReverse : D → List D → Option (D × Option D)
  | .lst ds, [] => some (.non, some (.lst ds.reverse))
  | _, _ => none
theorem om_reverse : OpM K G shL (tyV K "list") rReverse gReverse := by
  refine ⟨fun S H q c => ty_list, fun S H q c ds vs z oc ex fl dl e Q k => ?_⟩
  obtain ⟨xs, es, rfl, a1, a2⟩ := fl.lst
  match ds, dl, e with
  | [], .nil, e =>
    cases e
    exact ⟨q, xs, rfl, rfl, a1, k _ _ (.up a2.rev) .non⟩
section
variable {e a0 : Expr} {es : List Expr} {p : Pl} {a : MA} {ap cp : Pos}
theorem je_pAppend (P : PlE X G μ μa shL e p) (ha : JA X G E μa [a0] a)
    (hb : attributeBase e "append" X.env (eval e X.env) = eval e X.env := by rfl) (hf : ((backTo cp (starEach [a0] X.env)).all (fun x => !x.1) && (backToKw cp (keywordEach [] X.env)).all (fun x => x.1.isSome) && decide (([a0] : List Expr).length + ([] : List Keyword).length + (if ([] : List Keyword).isEmpty then 0 else 1) < 30)) = true := by rfl)
    (hl : (ap.endLine == cp.line) = true := by rfl) (hs : starEach [a0] X.env = (false, eval a0 X.env) :: starEach [] X.env := by rfl) (hp : (backTo cp (starEach [] X.env)).any (·.1) = false := by rfl) : JE X G E .d μ (.Call (.Attribute e "append" ap) [a0] [] cp) (mPM p a gAppend) :=
  je_pM PySem.F.plainAttrs_list PySem.F.slot_list_append PySem.F.type_list_append mt_append P om_append ha hb hf hl hs hp
theorem je_pExtend (P : PlE X G μ μa shL e p) (ha : JA X G E μa [a0] a)
    (hb : attributeBase e "extend" X.env (eval e X.env) = eval e X.env := by rfl) (hf : ((backTo cp (starEach [a0] X.env)).all (fun x => !x.1) && (backToKw cp (keywordEach [] X.env)).all (fun x => x.1.isSome) && decide (([a0] : List Expr).length + ([] : List Keyword).length + (if ([] : List Keyword).isEmpty then 0 else 1) < 30)) = true := by rfl)
    (hl : (ap.endLine == cp.line) = true := by rfl) (hs : starEach [a0] X.env = (false, eval a0 X.env) :: starEach [] X.env := by rfl) (hp : (backTo cp (starEach [] X.env)).any (·.1) = false := by rfl) : JE X G E .d μ (.Call (.Attribute e "extend" ap) [a0] [] cp) (mPM p a gExtend) :=
  je_pM PySem.F.plainAttrs_list PySem.F.slot_list_extend PySem.F.type_list_extend mt_extend P om_extend ha hb hf hl hs hp
theorem je_pPopAt (P : PlE X G μ μa shL e p) (ha : JA X G E μa [a0] a)
    (hb : attributeBase e "pop" X.env (eval e X.env) = eval e X.env := by rfl) (hf : ((backTo cp (starEach [a0] X.env)).all (fun x => !x.1) && (backToKw cp (keywordEach [] X.env)).all (fun x => x.1.isSome) && decide (([a0] : List Expr).length + ([] : List Keyword).length + (if ([] : List Keyword).isEmpty then 0 else 1) < 30)) = true := by rfl)
    (hl : (ap.endLine == cp.line) = true := by rfl) (hs : starEach [a0] X.env = (false, eval a0 X.env) :: starEach [] X.env := by rfl) (hp : (backTo cp (starEach [] X.env)).any (·.1) = false := by rfl) : JE X G E .d μ (.Call (.Attribute e "pop" ap) [a0] [] cp) (mPM p a gPopAt) :=
  je_pM PySem.F.plainAttrs_list PySem.F.slot_list_pop PySem.F.type_list_pop mt_popAt P om_popAt ha hb hf hl hs hp
theorem je_pPop0 (P : PlE X G μ μa shL e p) (hb : attributeBase e "pop" X.env (eval e X.env) = eval e X.env := by rfl) (hl : (ap.endLine == cp.line) = true := by rfl) : JE X G E .d μ (.Call (.Attribute e "pop" ap) [] [] cp) (mPM p mNil gPop0) :=
  je_pM0 PySem.F.plainAttrs_list PySem.F.slot_list_pop PySem.F.type_list_pop mt_pop P om_pop0 hb hl
theorem je_pReverse (P : PlE X G μ μa shL e p) (hb : attributeBase e "reverse" X.env (eval e X.env) = eval e X.env := by rfl) (hl : (ap.endLine == cp.line) = true := by rfl) : JE X G E .d μ (.Call (.Attribute e "reverse" ap) [] [] cp) (mPM p mNil gReverse) :=
  je_pM0 PySem.F.plainAttrs_list PySem.F.slot_list_reverse PySem.F.type_list_reverse mt_reverse P om_reverse hb hl
theorem je_pInsert {a1 : Expr} (P : PlE X G μ μa shL e p) (ha : JA X G E μa [a0, a1] a)
    (hb : attributeBase e "insert" X.env (eval e X.env) = eval e X.env := by rfl) (hf : ((backTo cp (starEach [a0, a1] X.env)).all (fun x => !x.1) && (backToKw cp (keywordEach [] X.env)).all (fun x => x.1.isSome) && decide (([a0, a1] : List Expr).length + ([] : List Keyword).length + (if ([] : List Keyword).isEmpty then 0 else 1) < 30)) = true := by rfl)
    (hl : (ap.endLine == cp.line) = true := by rfl) (hs : starEach [a0, a1] X.env = (false, eval a0 X.env) :: starEach [a1] X.env := by rfl) (hp : (backTo cp (starEach [a1] X.env)).any (·.1) = false := by rfl) : JE X G E .d μ (.Call (.Attribute e "insert" ap) [a0, a1] [] cp) (mPM p a gInsert) :=
  je_pM PySem.F.plainAttrs_list PySem.F.slot_list_insert PySem.F.type_list_insert mt_insert P om_insert ha hb hf hl hs hp
end
end
end MR

set_option Elab.async false
set_option linter.all false
set_option maxRecDepth 100000
set_option maxHeartbeats 1000000
/-! MB19: reads at places, keys, dicts, fields. -/
namespace MR
open PySem L2 PySem.Spec PyProof.Rows
section
variable {K : PySem.W.Frag} {G : Cl} {E : XS} {C : SC} {μ μ' μ1 μa : List Mode} {r : Mode} {X : Cx} {F : Fo} {S S' H H' : Hp} {σ : L2.St} {ρ : List D}
/-! ### keys -/
def KeyV (K : PySem.W.Frag) (G : Cl) (S : Hp) (v : V) : D → Prop
  | .tup ds => ∃ b vs, v = .ref b ∧ S b = some (.tup vs) ∧ DatL K G S vs ds
  | _ => True
theorem KeyV.mono {v : V} {d : D} (e : Ex S S') (h : KeyV K G S v d) : KeyV K G S' v d := by
  cases d with
  | tup ds => exact let ⟨b, vs, h1, h2, h3⟩ := h; ⟨b, vs, h1, e _ _ h2, h3.mono e⟩
  | _ => trivial
def KOk (K : PySem.W.Frag) (G : Cl) (E : XS) (μ : List Mode) (F : Fo) (S : Hp) (σ : L2.St) (Q : VK) : RR D → Prop
  | .ok d ρ' => ∀ v S' H', Ex S S' → EnvOk K G F S' H' μ σ ρ' → Dat K G S' v d → KeyV K G S' v d → Q v H'
  | .exc e ρ' => XOk K G E μ F S σ e ρ'
  | .bad => False
structure JK (X : Cx) (G : Cl) (E : XS) (μ : List Mode) (e : Expr) (m : ME) : Prop where
  ex : ∃ t, PE X e t ∧ ∀ F S H σ ρ, EnvOk X.K G F S H μ σ ρ → ∀ Q, KOk X.K G E μ F S σ Q (m ρ) → t σ H Q
def mKey (a : ME) : ME := fun ρ => match a ρ with
  | .ok (.tup _) _ => .bad
  | o => o
theorem jk_of {e : Expr} {a : ME} (h : JE X G E .d μ e a) : JK X G E μ e (mKey a) := by
  obtain ⟨t, p, s⟩ := h.ex
  refine ⟨t, p, fun F S H σ ρ h Q k => s F S H σ ρ h Q ?_⟩
  unfold mKey at k
  cases q : a ρ with
  | ok d ρ1 =>
    rw [q] at k
    intro v S1 H1 e1 h1
    cases d with
    | tup ds => exact k.elim
    | _ => exact k v S1 H1 e1 h1.tail h1.head trivial
  | exc e1 ρ1 => rw [q] at k; exact k
  | bad => rw [q] at k; exact k
theorem jk_tup {es : List Expr} {a : MA} {n : Nat} {pos : Pos} (ha : JA X G E μ es a) : JK X G E μ (.Tuple es n pos) (mTup a) := by
  obtain ⟨t, p, s⟩ := ha.ex
  refine ⟨_, pe_tup p, fun F S H σ ρ h Q k => s F S H σ ρ h _ ?_⟩
  unfold mTup at k
  cases q : a ρ with
  | ok ds ρ1 =>
    rw [q, bind_ok] at k
    intro vs S1 H1 e1 h1 q1
    split at k
    · rename_i hl
      refine ⟨le_line (by rw [q1.length]; exact hl), fun b hb => ?_⟩
      obtain ⟨e2, h2⟩ := h1.alloc (o := .tup vs) hb
      exact k _ _ _ (e1.trans e2) h2 (.tup (Or.inl (Or.inl upd_same)) (q1.mono e2)) ⟨b, vs, rfl, upd_same, q1.mono e2⟩
    · exact k.elim
  | exc e1 ρ1 => rw [q] at k; exact k
  | bad => rw [q] at k; exact k
/-! ### dicts -/
def keyOf : D → Option Key
  | .int i => some (.inl i)
  | .str s => some (.inr s)
  | _ => none
def keysOf : List D → Option (List Key)
  | [] => some []
  | d :: ds => match keyOf d, keysOf ds with
    | some k, some ks => some (k :: ks)
    | _, _ => none
theorem keyOf_v {v : V} {d : D} {k : Key} (h : Dat K G S v d) (e : keyOf d = some k) : v = kV k := by
  cases h <;> cases e <;> rfl
theorem keysOf_v : ∀ {vs : List V} {ds : List D} {ks : List Key}, DatL K G S vs ds → keysOf ds = some ks → vs = ks.map kV
  | _, _, _, .nil, e => by cases e; rfl
  | _, _, _, .cons (d := d) (ds := ds) h t, e => by
    simp only [keysOf] at e
    cases q1 : keyOf d with
    | none => rw [q1] at e; cases e
    | some k =>
      cases q2 : keysOf ds with
      | none => rw [q1, q2] at e; cases e
      | some ks =>
        rw [q1, q2] at e
        cases e
        rw [keyOf_v h q1, keysOf_v t q2]
        rfl
section
variable {κ : Type} [DecidableEq κ]
def valD (kvs : List (κ × D)) (k : κ) : Option D := (kvs.find? fun kv => decide (kv.1 = k)).map (·.2)
def putD (kvs : List (κ × D)) (k : κ) (v : D) : List (κ × D) :=
  if (kvs.any fun kv => decide (kv.1 = k)) = true then kvs.map (fun kv => if kv.1 = k then (kv.1, v) else kv) else kvs ++ [(k, v)]
theorem val_both (k : κ) : ∀ {ks : List κ} {vs : List V} {ds : List D}, ks.length = vs.length → DatL K G S vs ds → (valV (ks.zip vs) k = none ∧ valD (ks.zip ds) k = none) ∨ ∃ v d, valV (ks.zip vs) k = some v ∧ valD (ks.zip ds) k = some d ∧ Dat K G S v d
  | [], _, _, _, _ => .inl ⟨rfl, rfl⟩
  | c :: ks, _, _, l, .nil => by simp at l
  | c :: ks, v :: vs, d :: ds, l, .cons h t => by
    by_cases e : c = k
    · refine .inr ⟨v, d, ?_, ?_, h⟩
      · simp [valV, e]
      · simp [valD, e]
    · have := val_both k (ks := ks) (by simpa using l) t
      simpa [valV, valD, e] using this
theorem put_both (k : κ) {v : V} {d : D} (q : Dat K G S v d) : ∀ {ks : List κ} {vs : List V} {ds : List D}, ks.length = vs.length → DatL K G S vs ds → ∃ (ks' : List κ) (vs' : List V) (ds' : List D), putK (ks.zip vs) k v = ks'.zip vs' ∧ putD (ks.zip ds) k d = ks'.zip ds' ∧ ks'.length = vs'.length ∧ DatL K G S vs' ds' := by
  intro ks vs ds l h
  have any : ∀ {ks : List κ} {vs : List V} {ds : List D}, ks.length = vs.length → DatL K G S vs ds → ((ks.zip vs).any fun kv => decide (kv.1 = k)) = ((ks.zip ds).any fun kv => decide (kv.1 = k)) := by
    intro ks
    induction ks with
    | nil => intro vs ds _ _; rfl
    | cons c ks ih =>
      intro vs ds l h
      cases h with
      | nil => simp at l
      | cons h t => simp only [List.zip_cons_cons, List.any_cons]; rw [ih (by simpa using l) t]
  have mp : ∀ {ks : List κ} {vs : List V} {ds : List D}, ks.length = vs.length → DatL K G S vs ds → ∃ (vs' : List V) (ds' : List D), (ks.zip vs).map (fun kv => if kv.1 = k then (kv.1, v) else kv) = ks.zip vs' ∧ (ks.zip ds).map (fun kv => if kv.1 = k then (kv.1, d) else kv) = ks.zip ds' ∧ ks.length = vs'.length ∧ DatL K G S vs' ds' := by
    intro ks
    induction ks with
    | nil => intro vs ds _ _; exact ⟨[], [], rfl, rfl, rfl, .nil⟩
    | cons c ks ih =>
      intro vs ds l h
      cases h with
      | nil => simp at l
      | @cons v0 d0 vs ds h t =>
        obtain ⟨vs', ds', e1, e2, e3, e4⟩ := ih (by simpa using l) t
        by_cases e : c = k
        · exact ⟨v :: vs', d :: ds', by simp [e, e1], by simp [e, e2], by simp [e3], .cons q e4⟩
        · exact ⟨v0 :: vs', d0 :: ds', by simp [e, e1], by simp [e, e2], by simp [e3], .cons h e4⟩
  unfold putK putD
  rw [any l h]
  split
  · obtain ⟨vs', ds', e1, e2, e3, e4⟩ := mp l h
    exact ⟨ks, vs', ds', e1, e2, e3, e4⟩
  · refine ⟨ks ++ [k], vs ++ [v], ds ++ [d], ?_, ?_, by simp [l], h.append (.cons q .nil)⟩
    · rw [List.zip_append l]; rfl
    · rw [List.zip_append (l.trans h.length)]; rfl
end
/-- a dict of data that stands at a -/
def DictAt (K : PySem.W.Frag) (G : Cl) (S H : Hp) (a : Addr) (c : D) : Prop :=
  (∃ (ks : List Key) (vs : List V) (ds : List D), H a = some (.dK (ks.zip vs)) ∧ ks.length = vs.length ∧ DatL K G S vs ds ∧ c = .dK (ks.zip ds)) ∨
  ∃ (ks : List (List Key)) (vs : List V) (ds : List D), H a = some (.dT (ks.zip vs)) ∧ ks.length = vs.length ∧ DatL K G S vs ds ∧ c = .dT (ks.zip ds)
theorem FlatAt.dict {s1 : Sh} {q : Addr} {c : D} (h : FlatAt K G S H s1 q c) (hs : s1 = .dk ∨ s1 = .dt) : DictAt K G S H q c := by
  rcases hs with rfl | rfl
  · cases h with
    | dk a1 a2 a3 => exact .inl ⟨_, _, _, a1, a2, a3, rfl⟩
  · cases h with
    | dt a1 a2 a3 => exact .inr ⟨_, _, _, a1, a2, a3, rfl⟩
def isDict : D → Bool
  | .dK _ => true
  | .dT _ => true
  | _ => false
theorem Dat.dict {v : V} {c : D} (e : Ex S H) (h : Dat K G S v c) (hc : isDict c = true) : ∃ a, v = .ref a ∧ DictAt K G S H a c := by
  cases h with
  | dK a1 a2 a3 => exact ⟨_, rfl, .inl ⟨_, _, _, e _ _ a1, a2, a3, rfl⟩⟩
  | dT a1 a2 a3 => exact ⟨_, rfl, .inr ⟨_, _, _, e _ _ a1, a2, a3, rfl⟩⟩
  | _ => cases hc
def fDGet : D → D → Option (Option D)
  | .dK kvs, k => (keyOf k).map fun k => valD kvs k
  | .dT kvs, .tup ds => (keysOf ds).map fun k => valD kvs k
  | _, _ => none
theorem dget_ok {a : Addr} {c k : D} {v : V} {o : Option D} (e : Ex S H) (h : DictAt K G S H a c) (q : Dat K G S v k) (kv : KeyV K G S v k) (g : fDGet c k = some o) :
    ∃ w, DGet H a v w ∧ ((w = none ∧ o = none) ∨ ∃ v' d', w = some v' ∧ o = some d' ∧ Dat K G S v' d') := by
  rcases h with ⟨ks, vs, ds, h1, h2, h3, rfl⟩ | ⟨ks, vs, ds, h1, h2, h3, rfl⟩
  · have g' : (keyOf k).map (fun k => valD (ks.zip ds) k) = some o := by cases k <;> exact g
    cases q1 : keyOf k with
    | none => rw [q1] at g'; cases g'
    | some kk =>
      rw [q1] at g'
      cases g'
      have ev := keyOf_v q q1
      subst ev
      rcases val_both kk h2 h3 with ⟨z1, z2⟩ | ⟨v', d', z1, z2, z3⟩
      · exact ⟨_, DGet.k h1, .inl ⟨z1, z2⟩⟩
      · exact ⟨_, DGet.k h1, .inr ⟨v', d', z1, z2, z3⟩⟩
  · cases k with
    | tup kd =>
      have g' : (keysOf kd).map (fun k => valD (ks.zip ds) k) = some o := g
      cases q1 : keysOf kd with
      | none => rw [q1] at g'; cases g'
      | some kk =>
        rw [q1] at g'
        cases g'
        obtain ⟨b, ws, rfl, hb, hd⟩ := kv
        rw [keysOf_v hd q1] at hb
        rcases val_both kk h2 h3 with ⟨z1, z2⟩ | ⟨v', d', z1, z2, z3⟩
        · exact ⟨_, DGet.t h1 (e _ _ hb), .inl ⟨z1, z2⟩⟩
        · exact ⟨_, DGet.t h1 (e _ _ hb), .inr ⟨v', d', z1, z2, z3⟩⟩
    | _ => cases g
def fDPut : D → D → D → Option D
  | .dK kvs, k, d => if kvs.length < 1000000 then (keyOf k).map fun k => .dK (putD kvs k d) else none
  | .dT kvs, .tup ds, d => if kvs.length < 1000000 then (keysOf ds).map fun k => .dT (putD kvs k d) else none
  | _, _, _ => none
theorem zip_len {α β γ : Type} {ks : List α} {vs : List β} {ds : List γ} (h : ks.length = vs.length) (h2 : vs.length = ds.length) : (ks.zip vs).length = (ks.zip ds).length := by
  rw [List.length_zip, List.length_zip, h2]
theorem dput_ok {s1 : Sh} {a : Addr} {c k d c2 : D} {v w : V} (e : Ex S H) (h : FlatAt K G S H s1 a c) (hs : s1 = .dk ∨ s1 = .dt) (q : Dat K G S v k) (kv : KeyV K G S v k) (qd : Dat K G S w d) (g : fDPut c k d = some c2) :
    ∃ o, DPut H a v w (upd H a o) ∧ FlatAt K G S (upd H a o) s1 a c2 := by
  rcases hs with rfl | rfl
  · cases h with
    | @dk p ks vs ds h1 h2 h3 =>
      have g' : (if (ks.zip ds).length < 1000000 then (keyOf k).map (fun k => D.dK (putD (ks.zip ds) k d)) else none) = some c2 := by cases k <;> exact g
      split at g'
      · rename_i hl
        cases q1 : keyOf k with
        | none => rw [q1] at g'; cases g'
        | some kk =>
          rw [q1] at g'
          cases g'
          have ev := keyOf_v q q1
          subst ev
          obtain ⟨ks', vs', ds', e1, e2, e3, e4⟩ := put_both kk qd h2 h3
          refine ⟨_, DPut.k h1 (lt_line (by rw [zip_len h2 h3.length]; exact hl)), ?_⟩
          rw [e1]
          show FlatAt K G S _ .dk a (.dK (putD (ks.zip ds) kk d))
          rw [e2]
          exact .dk upd_same e3 e4
      · cases g'
  · cases h with
    | @dt p ks vs ds h1 h2 h3 =>
      cases k with
      | tup kd =>
        have g' : (if (ks.zip ds).length < 1000000 then (keysOf kd).map (fun k => D.dT (putD (ks.zip ds) k d)) else none) = some c2 := g
        split at g'
        · rename_i hl
          cases q1 : keysOf kd with
          | none => rw [q1] at g'; cases g'
          | some kk =>
            rw [q1] at g'
            cases g'
            obtain ⟨b, ws, rfl, hb, hd⟩ := kv
            rw [keysOf_v hd q1] at hb
            obtain ⟨ks', vs', ds', e1, e2, e3, e4⟩ := put_both kk qd h2 h3
            refine ⟨_, DPut.t h1 (e _ _ hb) (lt_line (by rw [zip_len h2 h3.length]; exact hl)), ?_⟩
            rw [e1]
            show FlatAt K G S _ .dt _ (.dT (putD (ks.zip ds) kk d))
            rw [e2]
            exact .dt upd_same e3 e4
        · cases g'
      | _ => cases g
/-! {} -/
theorem je_newK {pos : Pos} : JE X G E .o μ (.Dict [] [] pos) (mC (.dK [])) := ⟨_, pe_dnewK, fun F S H σ ρ h Q k p hp => k _ S _ (Evl.Ex.refl S) (h.pushO hp (.dK (ks := []) (vs := []) (ds := []) upd_same rfl .nil))⟩
theorem je_newT {pos : Pos} : JE X G E .o μ (.Dict [] [] pos) (mC (.dT [])) := ⟨_, pe_dnewT, fun F S H σ ρ h Q k p hp => k _ S _ (Evl.Ex.refl S) (h.pushO hp (.dT (ks := []) (vs := []) (ds := []) upd_same rfl .nil))⟩
/-! ### d[k], k in d, d.get(k, z), d data -/
def fDAt (c k : D) : Option D := (fDGet c k).bind id
def fDIn (c k : D) : Option Bool := (fDGet c k).map (·.isSome)
theorem fDGet_dict {c k : D} {o : Option D} (h : fDGet c k = some o) : isDict c = true := by
  cases c <;> first | rfl | (cases k <;> cases h)
def mDAt (a b : ME) : ME := fun ρ => (a ρ).bind fun c ρ1 => (b ρ1).bind fun k ρ2 => RR.of (fDAt c k) ρ2
theorem je_dat {e k : Expr} {a b : ME} {pos : Pos} (hu : X.A.units + 64 < cLine) (he : JE X G E .d μ e a) (hk : JK X G E μ k b) (hs : NoSl k := by intro _ _; rfl) : JE X G E .d μ (.Subscript e k pos) (mDAt a b) := by
  obtain ⟨t1, p1, s1⟩ := he.ex
  obtain ⟨t2, p2, s2⟩ := hk.ex
  refine ⟨_, pe_dget (Nat.lt_of_le_of_lt (by omega) hu) p1 p2 hs, fun F S H σ ρ h Q k => s1 F S H σ ρ h _ ?_⟩
  unfold mDAt at k
  cases q1 : a ρ with
  | ok c ρ1 =>
    rw [q1, bind_ok] at k
    intro v S1 H1 e1 h1
    have k1 := EOk.mono e1 k
    refine s2 F S1 H1 σ ρ1 h1.tail _ ?_
    cases q2 : b ρ1 with
    | ok kd ρ2 =>
      rw [q2, bind_ok] at k1
      intro w S2 H2 e2 h2 dk kv
      have k2 := EOk.mono e2 k1
      unfold fDAt at k2
      cases q3 : fDGet c kd with
      | none => rw [q3] at k2; exact k2.elim
      | some o =>
        rw [q3] at k2
        obtain ⟨x, rfl, da⟩ := (h1.head.mono e2).dict h2.sh (fDGet_dict q3)
        obtain ⟨ov, g1, g2⟩ := dget_ok h2.sh da dk kv q3
        rcases g2 with ⟨rfl, rfl⟩ | ⟨v', d', rfl, rfl, g3⟩
        · exact k2.elim
        · exact ⟨x, v', rfl, g1, k2 v' S2 H2 (Evl.Ex.refl S2) (h2.push g3)⟩
    | exc e ρ2 => rw [q2] at k1; exact k1
    | bad => rw [q2] at k1; exact k1
  | exc e ρ1 => rw [q1] at k; exact k
  | bad => rw [q1] at k; exact k
def mDIn (b a : ME) : List D → RR Bool := fun ρ => (b ρ).bind fun k ρ1 => (a ρ1).bind fun c ρ2 => RR.of (fDIn c k) ρ2
theorem jt_din {e k : Expr} {a b : ME} {pos : Pos} (hu : X.A.units + 64 < cLine) (hk : JK X G E μ k b) (he : JE X G E .d μ e a) (hm : behindInMarks .In e = false := by rfl) : JT X G E μ (.Compare k [.In] [e] pos) (mDIn b a) := by
  obtain ⟨t1, p1, s1⟩ := he.ex
  obtain ⟨t2, p2, s2⟩ := hk.ex
  refine ⟨_, pt_cmp (pc_din (Nat.lt_of_le_of_lt (by omega) hu) p2 p1) hm, fun F S H σ ρ h Q k => s2 F S H σ ρ h _ ?_⟩
  unfold mDIn at k
  cases q2 : b ρ with
  | ok kd ρ1 =>
    rw [q2, bind_ok] at k
    intro w S1 H1 e1 h1 dk kv
    have k1 := TOk.mono e1 k
    refine s1 F S1 H1 σ ρ1 h1 _ ?_
    cases q1 : a ρ1 with
    | ok c ρ2 =>
      rw [q1, bind_ok] at k1
      intro v S2 H2 e2 h2
      have k2 := TOk.mono e2 k1
      unfold fDIn at k2
      cases q3 : fDGet c kd with
      | none => rw [q3] at k2; exact k2.elim
      | some o =>
        rw [q3] at k2
        obtain ⟨x, rfl, da⟩ := h2.head.dict h2.sh (fDGet_dict q3)
        obtain ⟨ov, g1, g2⟩ := dget_ok h2.sh da (dk.mono e2) (kv.mono e2) q3
        refine ⟨x, ov, rfl, g1, ov.isSome, rfl, ?_⟩
        have : ov.isSome = o.isSome := by rcases g2 with ⟨rfl, rfl⟩ | ⟨v', d', rfl, rfl, g3⟩ <;> rfl
        rw [this]
        exact k2 S2 H2 (Evl.Ex.refl S2) h2.tail
    | exc e ρ2 => rw [q1] at k1; exact k1
    | bad => rw [q1] at k1; exact k1
  | exc e ρ1 => rw [q2] at k; exact k
  | bad => rw [q2] at k; exact k
def mDGet2 (a b z : ME) : ME := fun ρ => (a ρ).bind fun c ρ1 => if isDict c = true then (b ρ1).bind fun k ρ2 => (z ρ2).bind fun d ρ3 => RR.of ((fDGet c k).map fun o => o.getD d) ρ3 else .bad
theorem isD_of {a : Addr} {c : D} (h : DictAt K G S H a c) : IsD H a := by
  rcases h with ⟨ks, vs, ds, h1, _⟩ | ⟨ks, vs, ds, h1, _⟩
  · exact .inl ⟨_, .inl h1⟩
  · exact .inr ⟨_, .inl h1⟩
theorem je_dget2 {e k f : Expr} {a b z : ME} {ap pos : Pos} (hu : X.A.units + 64 < cLine) (he : JE X G E .d μ e a) (hk : JK X G E μ k b) (hf : JE X G E .d μ f z) (m : M2 X e "get" ap k f pos := by exact ⟨by rfl, by rfl, by rfl, by rfl⟩) : JE X G E .d μ (.Call (.Attribute e "get" ap) [k, f] [] pos) (mDGet2 a b z) := by
  obtain ⟨t1, p1, s1⟩ := he.ex
  obtain ⟨t2, p2, s2⟩ := hk.ex
  obtain ⟨t3, p3, s3⟩ := hf.ex
  refine ⟨_, pe_dget2 (Nat.lt_of_le_of_lt (by omega) hu) p1 p2 p3 m, fun F S H σ ρ h Q k => s1 F S H σ ρ h _ ?_⟩
  unfold mDGet2 at k
  cases q1 : a ρ with
  | ok c ρ1 =>
    rw [q1, bind_ok] at k
    intro v S1 H1 e1 h1
    have k1 := EOk.mono e1 k
    split at k1
    · rename_i hc
      obtain ⟨x, rfl, da⟩ := h1.head.dict h1.sh hc
      refine ⟨x, rfl, isD_of da, s2 F S1 H1 σ ρ1 h1.tail _ ?_⟩
      cases q2 : b ρ1 with
      | ok kd ρ2 =>
        rw [q2, bind_ok] at k1
        intro w S2 H2 e2 h2 dk kv
        have k2 := EOk.mono e2 k1
        refine s3 F S2 H2 σ ρ2 h2 _ ?_
        cases q3 : z ρ2 with
        | ok d ρ3 =>
          rw [q3, bind_ok] at k2
          intro y S3 H3 e3 h3
          have k3 := EOk.mono e3 k2
          cases q4 : fDGet c kd with
          | none => rw [q4] at k3; exact k3.elim
          | some o =>
            rw [q4] at k3
            obtain ⟨x', ex, da3⟩ := ((h1.head.mono e2).mono e3).dict h3.sh hc
            cases ex
            obtain ⟨ov, g1, g2⟩ := dget_ok h3.sh da3 (dk.mono e3) (kv.mono e3) q4
            refine ⟨ov, g1, ?_⟩
            rcases g2 with ⟨rfl, rfl⟩ | ⟨v', d', rfl, rfl, g3⟩
            · exact k3 y S3 H3 (Evl.Ex.refl S3) h3
            · exact k3 v' S3 H3 (Evl.Ex.refl S3) (h3.tail.push g3)
        | exc e ρ3 => rw [q3] at k2; exact k2
        | bad => rw [q3] at k2; exact k2
      | exc e ρ2 => rw [q2] at k1; exact k1
      | bad => rw [q2] at k1; exact k1
    · exact k1.elim
  | exc e ρ1 => rw [q1] at k; exact k
  | bad => rw [q1] at k; exact k
end
end MR

set_option Elab.async false
set_option linter.all false
set_option maxRecDepth 100000
set_option maxHeartbeats 1000000
/-! MB20: reads at places, stores into them, fields. -/
namespace MR
open PySem L2 PySem.Spec PyProof.Rows
section
variable {K : PySem.W.Frag} {G : Cl} {E : XS} {C : SC} {μ μ' μ1 μa : List Mode} {r : Mode} {X : Cx} {F : Fo} {S S' H H' : Hp} {σ : L2.St} {ρ : List D}
/-! ### place[k] -/
/-- what stands at a place and an argument give a result -/
def mPX (p : Pl) (a : ME) (g : D → D → Option D) : ME := fun ρ => match p.rd ρ ρ with
  | none => .bad
  | some _ => match a ρ with
    | .ok d ρ1 => match p.rd ρ ρ1 with
      | none => .bad
      | some c => RR.of (g c d) (p.re ρ ρ1)
    | .exc e ρ1 => .exc e (p.re ρ ρ1)
    | .bad => .bad
theorem se_pX {s1 : Sh} {e : Expr} {p : Pl} {R : V → V → Hp → VK → Prop} {g : D → D → Option D} {a : ME} {ta : TE} (P : PlE X G μ μa s1 e p) (op : ∀ S H q c d v z, Ex S H → FlatAt X.K G S H s1 q c → Dat X.K G S v d → KeyV X.K G S v d → g c d = some z → ∀ Q : VK, (∀ w, Dat X.K G S w z → Q w H) → R (.ref q) v H Q)
    (sa : ∀ F S H σ ρ, EnvOk X.K G F S H μa σ ρ → ∀ Q, KOk X.K G E μa F S σ Q (a ρ) → ta σ H Q) : ∃ t, PE X e t ∧ SE X.K G E .d μ (fun σ H Q => t σ H fun x H1 => ta σ H1 fun y H2 => R x y H2 Q) (mPX p a g) := by
  obtain ⟨t, pe, go⟩ := P.ex
  refine ⟨t, pe, fun F S H σ ρ h Q k => ?_⟩
  unfold mPX at k
  cases q1 : p.rd ρ ρ with
  | none => rw [q1] at k; exact k.elim
  | some d1 =>
    rw [q1] at k
    dsimp only at k
    obtain ⟨q, F', read, fl, h', re⟩ := go F S H σ ρ d1 h q1
    refine read _ (sa F' S H σ ρ h' _ ?_)
    cases q2 : a ρ with
    | ok d ρ1 =>
      rw [q2] at k
      dsimp only at k
      intro v S2 H2 e2 h2 q3 kv
      obtain ⟨r1, r2⟩ := re S2 H2 ρ1 e2 h2
      cases q4 : p.rd ρ ρ1 with
      | none => rw [q4] at k; exact k.elim
      | some c =>
        rw [q4] at k
        dsimp only at k
        cases q5 : g c d with
        | none => rw [q5] at k; exact k.elim
        | some z =>
          rw [q5] at k
          exact op S2 H2 q c d v z h2.sh (r2 c q4).1 q3 kv q5 Q fun w dw => k w S2 H2 e2 (r1.push dw)
    | exc e ρ1 =>
      rw [q2] at k
      dsimp only at k
      exact fun c dct S2 H2 e2 h2 z => k c dct S2 H2 e2 (re S2 H2 ρ1 e2 h2).1 z
    | bad => rw [q2] at k; exact k
theorem kof {e : Expr} {a : ME} (h : JE X G E .d μ e a) : ∃ t, PE X e t ∧ ∀ F S H σ ρ, EnvOk X.K G F S H μ σ ρ → ∀ Q, KOk X.K G E μ F S σ Q (mKey a ρ) → t σ H Q := (jk_of h).ex
theorem je_pIx {e b : Expr} {p : Pl} {a : ME} {pos : Pos} (P : PlE X G μ μa shL e p) (hb : JE X G E .d μa b a) (hs : PlainIx b := by intro _ _; rfl) : JE X G E .d μ (.Subscript e b pos) (mPX p (mKey a) fIx) := by
  obtain ⟨tb, p2, s2⟩ := kof hb
  obtain ⟨t, pe, se⟩ := se_pX (R := fun x y H Q => ∃ (q : Addr) (xs : List V) (i : Int) (v : V), x = .ref q ∧ y = .int i ∧ SqL X.K H q xs ∧ atI xs i = some v ∧ Q v H) (g := fIx) P (fun S H q c d v z ex fl dd _ g Q k => by
    obtain ⟨vs, ds, rfl, a1, a2⟩ := fl.lst
    cases d with
    | int i =>
      cases dd
      obtain ⟨v, h1, h2⟩ := datL_at a2 (show atI ds i = some z from g)
      exact ⟨q, vs, i, v, rfl, rfl, .inl (.inl a1), h1, k v h2⟩
    | _ => cases g) s2
  exact ⟨_, pe_ix ix_list pe p2 hs, se⟩
theorem je_pDAt {s1 : Sh} {e b : Expr} {p : Pl} {a : ME} {pos : Pos} (hu : X.A.units + 64 < cLine) (P : PlE X G μ μa s1 e p) (hb : JK X G E μa b a) (hs1 : s1 = .dk ∨ s1 = .dt := by first | exact .inl rfl | exact .inr rfl) (hs : NoSl b := by intro _ _; rfl) : JE X G E .d μ (.Subscript e b pos) (mPX p a fDAt) := by
  obtain ⟨tb, p2, s2⟩ := hb.ex
  obtain ⟨t, pe, se⟩ := se_pX (R := fun x y H Q => ∃ a v, x = .ref a ∧ DGet H a y (some v) ∧ Q v H) (g := fDAt) P (fun S H q c d v z ex fl dd kv g Q k => by
    unfold fDAt at g
    cases q3 : fDGet c d with
    | none => rw [q3] at g; cases g
    | some o =>
      rw [q3] at g
      have g' : o = some z := g
      subst g'
      obtain ⟨ov, g1, g2⟩ := dget_ok ex (fl.dict hs1) dd kv q3
      rcases g2 with ⟨_, z2⟩ | ⟨v', d', rfl, z2, g3⟩
      · cases z2
      · cases z2
        exact ⟨q, v', rfl, g1, k v' g3⟩) s2
  exact ⟨_, pe_dget (Nat.lt_of_le_of_lt (by omega) hu) pe p2 hs, se⟩
/-! ### k in place -/
def mPIn (b : ME) (p : Pl) : List D → RR Bool := fun ρ => (b ρ).bind fun k ρ1 => match p.rd ρ1 ρ1 with
  | none => .bad
  | some c => RR.of (fDIn c k) (p.re ρ1 ρ1)
theorem jt_pIn {s1 : Sh} {e b : Expr} {p : Pl} {a : ME} {pos : Pos} (hu : X.A.units + 64 < cLine) (hb : JK X G E μ b a) (P : PlE X G μ μa s1 e p) (hs1 : s1 = .dk ∨ s1 = .dt := by first | exact .inl rfl | exact .inr rfl) (hm : behindInMarks .In e = false := by rfl) : JT X G E μ (.Compare b [.In] [e] pos) (mPIn a p) := by
  obtain ⟨t2, p2, s2⟩ := hb.ex
  obtain ⟨t, pe, go⟩ := P.ex
  refine ⟨_, pt_cmp (pc_din (Nat.lt_of_le_of_lt (by omega) hu) p2 pe) hm, fun F S H σ ρ h Q k => s2 F S H σ ρ h _ ?_⟩
  unfold mPIn at k
  cases q2 : a ρ with
  | ok kd ρ1 =>
    rw [q2, bind_ok] at k
    intro w S1 H1 e1 h1 dk kv
    have k1 := TOk.mono e1 k
    cases q4 : p.rd ρ1 ρ1 with
    | none => rw [q4] at k1; exact k1.elim
    | some c =>
      rw [q4] at k1
      dsimp only at k1
      obtain ⟨q, F', read, fl, h', re⟩ := go F S1 H1 σ ρ1 c h1 q4
      refine read _ ?_
      obtain ⟨r1, _⟩ := re S1 H1 ρ1 (Evl.Ex.refl S1) h'
      unfold fDIn at k1
      cases q3 : fDGet c kd with
      | none => rw [q3] at k1; exact k1.elim
      | some o =>
        rw [q3] at k1
        obtain ⟨ov, g1, g2⟩ := dget_ok h1.sh (fl.dict hs1) dk kv q3
        refine ⟨q, ov, rfl, g1, ov.isSome, rfl, ?_⟩
        have : ov.isSome = o.isSome := by rcases g2 with ⟨rfl, rfl⟩ | ⟨v', d', rfl, rfl, g3⟩ <;> rfl
        rw [this]
        exact k1 S1 H1 (Evl.Ex.refl S1) r1
  | exc e ρ1 => rw [q2] at k; exact k
  | bad => rw [q2] at k; exact k
/-- x in place, a list of flat things -/
def mPInL (b : ME) (p : Pl) : List D → RR Bool := fun ρ => (b ρ).bind fun k ρ1 => match p.rd ρ1 ρ1 with
  | some (.lst ds) => RR.of (fIn k (.lst ds)) (p.re ρ1 ρ1)
  | _ => .bad
theorem jt_pInL {e b : Expr} {p : Pl} {a : ME} {pos : Pos} (hb : JE X G E .d μ b a) (P : PlE X G μ μa shL e p) (hm : behindInMarks .In e = false := by rfl) : JT X G E μ (.Compare b [.In] [e] pos) (mPInL a p) := by
  obtain ⟨t2, p2, s2⟩ := hb.ex
  obtain ⟨t, pe, go⟩ := P.ex
  refine ⟨_, pt_cmpR op_in_seq p2 pe hm, fun F S H σ ρ h Q k => s2 F S H σ ρ h _ ?_⟩
  unfold mPInL at k
  cases q2 : a ρ with
  | ok kd ρ1 =>
    rw [q2, bind_ok] at k
    intro w S1 H1 e1 h1
    have k1 := TOk.mono e1 k
    split at k1
    · rename_i ds q4
      obtain ⟨q, F', read, fl, h', re⟩ := go F S1 H1 σ ρ1 _ h1.tail q4
      refine read _ ?_
      obtain ⟨r1, _⟩ := re S1 H1 ρ1 (Evl.Ex.refl S1) h'
      obtain ⟨vs, ds', ec, a1, a2⟩ := fl.lst
      cases ec
      have k2 : TOk X.K G E μ F S1 σ Q (RR.of (if flatD kd = true ∧ ds.all flatD = true then some (ds.any fun y => eqF y kd) else none) (p.re ρ1 ρ1)) := by
        have : fIn kd (.lst ds) = (if flatD kd = true ∧ ds.all flatD = true then some (ds.any fun y => eqF y kd) else none) := by cases kd <;> rfl
        rw [← this]; exact k1
      split at k2
      · rename_i hc
        refine ⟨q, vs, rfl, .inl (.inl (.inl a1)), flat_of h1.head hc.1, flats_of a2 hc.2, ds.any (fun y => eqF y kd), ?_, k2 S1 H1 (Evl.Ex.refl S1) r1⟩
        rw [if_neg Bool.false_ne_true, inV_of h1.head hc.1 a2 hc.2]
      · exact k2.elim
    · exact k1.elim
  | exc e ρ1 => rw [q2] at k; exact k
  | bad => rw [q2] at k; exact k
/-! ### place.get(k, z) -/
def mPGet2 (p : Pl) (b z : ME) : ME := fun ρ => match p.rd ρ ρ with
  | none => .bad
  | some _ => match b ρ with
    | .ok k ρ1 => match z ρ1 with
      | .ok d ρ2 => match p.rd ρ ρ2 with
        | none => .bad
        | some c => RR.of ((fDGet c k).map fun o => o.getD d) (p.re ρ ρ2)
      | .exc e ρ2 => .exc e (p.re ρ ρ2)
      | .bad => .bad
    | .exc e ρ1 => .exc e (p.re ρ ρ1)
    | .bad => .bad
theorem je_pGet2 {s1 : Sh} {e k f : Expr} {p : Pl} {b z : ME} {ap pos : Pos} (hu : X.A.units + 64 < cLine) (P : PlE X G μ μa s1 e p) (hk : JK X G E μa k b) (hf : JE X G E .d μa f z) (hs1 : s1 = .dk ∨ s1 = .dt := by first | exact .inl rfl | exact .inr rfl) (m : M2 X e "get" ap k f pos := by exact ⟨by rfl, by rfl, by rfl, by rfl⟩) : JE X G E .d μ (.Call (.Attribute e "get" ap) [k, f] [] pos) (mPGet2 p b z) := by
  obtain ⟨t, pe, go⟩ := P.ex
  obtain ⟨t2, p2, s2⟩ := hk.ex
  obtain ⟨t3, p3, s3⟩ := hf.ex
  refine ⟨_, pe_dget2 (Nat.lt_of_le_of_lt (by omega) hu) pe p2 p3 m, fun F S H σ ρ h Q k => ?_⟩
  unfold mPGet2 at k
  cases q1 : p.rd ρ ρ with
  | none => rw [q1] at k; exact k.elim
  | some d1 =>
    rw [q1] at k
    dsimp only at k
    obtain ⟨q, F', read, fl, h', re⟩ := go F S H σ ρ d1 h q1
    refine read _ ⟨q, rfl, isD_of (fl.dict hs1), s2 F' S H σ ρ h' _ ?_⟩
    cases q2 : b ρ with
    | ok kd ρ1 =>
      rw [q2] at k
      dsimp only at k
      intro w S2 H2 e2 h2 dk kv
      refine s3 F' S2 H2 σ ρ1 h2 _ ?_
      cases q3 : z ρ1 with
      | ok d ρ2 =>
        rw [q3] at k
        dsimp only at k
        intro y S3 H3 e3 h3
        obtain ⟨r1, r2⟩ := re S3 H3 ρ2 (e2.trans e3) h3.tail
        cases q4 : p.rd ρ ρ2 with
        | none => rw [q4] at k; exact k.elim
        | some c =>
          rw [q4] at k
          dsimp only at k
          cases q5 : fDGet c kd with
          | none => rw [q5] at k; exact k.elim
          | some o =>
            rw [q5] at k
            obtain ⟨ov, g1, g2⟩ := dget_ok h3.sh ((r2 c q4).1.dict hs1) (dk.mono e3) (kv.mono e3) q5
            refine ⟨ov, g1, ?_⟩
            rcases g2 with ⟨rfl, rfl⟩ | ⟨v', d', rfl, rfl, g3⟩
            · exact k y S3 H3 (e2.trans e3) (r1.push h3.head)
            · exact k v' S3 H3 (e2.trans e3) (r1.push g3)
      | exc er ρ2 =>
        rw [q3] at k
        dsimp only at k
        exact fun c dct S3 H3 e3 h3 zz => k c dct S3 H3 (e2.trans e3) (re S3 H3 ρ2 (e2.trans e3) h3).1 zz
      | bad => rw [q3] at k; exact k
    | exc er ρ1 =>
      rw [q2] at k
      dsimp only at k
      exact fun c dct S2 H2 e2 h2 zz => k c dct S2 H2 e2 (re S2 H2 ρ1 e2 h2).1 zz
    | bad => rw [q2] at k; exact k
/-! ### place[k] = v, a dict -/
def mPPut (p : Pl) (b v : ME) : MS := fun ρ => match v ρ with
  | .ok d ρ1 => match p.rd ρ1 ρ1 with
    | none => .bad
    | some _ => match b ρ1 with
      | .ok k ρ2 => match p.rd ρ1 ρ2 with
        | none => .bad
        | some c => match fDPut c k d with
          | none => .bad
          | some c2 => .nx (p.put ρ1 ρ2 c2)
      | .exc e ρ2 => .exc e (p.re ρ1 ρ2)
      | .bad => .bad
  | .exc e ρ1 => .exc e ρ1
  | .bad => .bad
theorem js_pPut {s1 : Sh} {e k v : Expr} {p : Pl} {b mv : ME} {pos pos' : Pos} (hu : X.A.units + 64 < cLine) (hv : JE X G C.E .d μ v mv) (P : PlE X G μ μa s1 e p) (hk : JK X G C.E μa k b) (hs1 : s1 = .dk ∨ s1 = .dt := by first | exact .inl rfl | exact .inr rfl) (w : ModesLe C.μx μ = true := by rfl)
    (hs : swapsWith v (some (.Subscript e k pos')) pos.line X.env = pure false := by rfl) : JS X G C μ μ (.Assign [.Subscript e k pos'] v pos) (mPPut p b mv) := by
  obtain ⟨t, pe, go⟩ := P.ex
  obtain ⟨t2, p2, s2⟩ := hk.ex
  obtain ⟨t3, p3, s3⟩ := hv.ex
  refine ⟨_, ps_dput (Nat.lt_of_le_of_lt (by omega) hu) pe p2 p3 hs, fun F S H σ ρ h Dn kn => s3 F S H σ ρ h _ ?_⟩
  unfold mPPut at kn
  cases q0 : mv ρ with
  | ok d ρ1 =>
    rw [q0] at kn
    dsimp only at kn
    intro vv S1 H1 e1 h1
    cases q1 : p.rd ρ1 ρ1 with
    | none => rw [q1] at kn; exact kn.elim
    | some d1 =>
      rw [q1] at kn
      dsimp only at kn
      obtain ⟨q, F', read, fl, h', re⟩ := go F S1 H1 σ ρ1 d1 h1.tail q1
      refine read _ (s2 F' S1 H1 σ ρ1 h' _ ?_)
      cases q2 : b ρ1 with
      | ok kd ρ2 =>
        rw [q2] at kn
        dsimp only at kn
        intro w2 S2 H2 e2 h2 dk kv
        obtain ⟨r1, r2⟩ := re S2 H2 ρ2 e2 h2
        cases q4 : p.rd ρ1 ρ2 with
        | none => rw [q4] at kn; exact kn.elim
        | some c =>
          rw [q4] at kn
          dsimp only at kn
          obtain ⟨f2, f3⟩ := r2 c q4
          cases q5 : fDPut c kd d with
          | none => rw [q5] at kn; exact kn.elim
          | some c2 =>
            rw [q5] at kn
            obtain ⟨o, g1, g2⟩ := dput_ok h2.sh f2 hs1 dk kv (h1.head.mono e2) q5
            exact ⟨q, _, rfl, g1, kn σ S2 _ (e1.trans e2) (f3 o c2 g2)⟩
      | exc er ρ2 =>
        rw [q2] at kn
        dsimp only at kn
        exact fun c dct S2 H2 e2 h2 zz => kn μ σ c dct S2 H2 w (e1.trans e2) (re S2 H2 ρ2 e2 h2).1 zz
      | bad => rw [q2] at kn; exact kn
  | exc er ρ1 => rw [q0] at kn; exact xout w kn
  | bad => rw [q0] at kn; exact kn
/-! ### len(place), its truth -/
def mPLen (p : Pl) : ME := fun ρ => match p.rd ρ ρ with
  | some (.lst ds) => .ok (.int ds.length) (p.re ρ ρ)
  | _ => .bad
theorem je_pLen {y : Str} {e : Expr} {p : Pl} {p1 pos : Pos} (P : PlE X G μ μa shL e p) (hm : X.mg y = none) (hg : Gl X y := by rfl) (hv : bootBuiltins y = some (.builtin "len") := by decide +kernel) (hn : y ≠ "__name__" := by decide) (hdy : (y == ("__debug__" : Str)) = false := by decide)
    (he : starEach [e] X.env = (false, eval e X.env) :: starEach [] X.env := by rfl) (hpl : (backTo pos (starEach [] X.env)).any (·.1) = false := by rfl) : JE X G E .d μ (.Call (.Name y p1) [e] [] pos) (mPLen p) := by
  obtain ⟨t, pe, go⟩ := P.ex
  refine ⟨_, pe_callB call_len_seq hg hm hv (pa_cons pe pa_nil he) hn hdy he hpl, fun F S H σ ρ h Q k => ?_⟩
  unfold mPLen at k
  split at k
  · rename_i ds q1
    obtain ⟨q, F', read, fl, h', re⟩ := go F S H σ ρ _ h q1
    obtain ⟨vs, ds', ec, a1, a2⟩ := fl.lst
    cases ec
    refine read _ ⟨q, _, rfl, .inl (.inl (.inl a1)), ?_⟩
    rw [a2.length]
    exact k _ S H (Evl.Ex.refl S) ((re S H ρ (Evl.Ex.refl S) h').1.push (.int _))
  · exact k.elim
def mPTr (p : Pl) : MT := fun ρ => match p.rd ρ ρ with
  | some (.lst ds) => .ok (!ds.isEmpty) (p.re ρ ρ)
  | _ => .bad
theorem jt_pTr {e : Expr} {p : Pl} (P : PlE X G μ μa shL e p) (he : ∀ whole, isTrue e X.env whole = (do let v ← whole; standAt e.pos; holding [v] (truthy v)) := by intro _; rfl) : JT X G E μ e (mPTr p) := by
  obtain ⟨t, pe, go⟩ := P.ex
  refine ⟨_, pt_truth pe he, fun F S H σ ρ h Q k => ?_⟩
  unfold mPTr at k
  split at k
  · rename_i ds q1
    obtain ⟨q, F', read, fl, h', re⟩ := go F S H σ ρ _ h q1
    obtain ⟨vs, ds', ec, a1, a2⟩ := fl.lst
    cases ec
    refine read _ ⟨!ds.isEmpty, .inl ⟨vs, .inl (.inl a1), ?_⟩, k S H (Evl.Ex.refl S) (re S H ρ (Evl.Ex.refl S) h').1⟩
    cases a2 <;> rfl
  · exact k.elim
/-! ### fields: data read off an owned instance; a new field; data stored at a written place -/
def mKidD (i : Nat) (sh : Sh) (f : Str) (j : Nat) : ME := fun ρ => RR.of (kidAt sh f j (ρ.getD i .non)) ρ
theorem je_kidF {i j c : Nat} {f x : Str} {mo : Mode} {row : Sh} {p2 pos : Pos} (cl : ClsO X.K G c) (no : FldO X.K G c f) (hm : μ[i]? = some mo := by rfl) (hs : shS mo (.i c row) = true := by rfl) (ha : row.at j = some .d := by rfl)
    (hN : X.N[i]? = some x := by rfl) (hx : Vis X.env.scope x := by first | exact Or.inl rfl | exact Or.inr (Or.inl rfl) | exact Or.inr (Or.inr rfl)) (hd : (x == ("__debug__" : Str)) = false := by decide) (hcd : (x == ("__classdict__" : Str)) = false := by decide) (hb : attributeBase (.Name x p2) f X.env (eval (.Name x p2) X.env) = eval (.Name x p2) X.env := by rfl) :
    JE X G E .d μ (.Attribute (.Name x p2) f pos) (mKidD i (.i c row) f j) := by
  refine ⟨_, pe_fld (pe_var hN hx hd hcd) hb, fun F S H σ ρ h Q k => ?_⟩
  unfold mKidD at k
  cases q1 : kidAt (.i c row) f j (ρ.getD i .non) with
  | none => rw [q1] at k; exact k.elim
  | some d =>
    rw [q1] at k
    obtain ⟨e1, e2⟩ := kidAt_kids q1
    obtain ⟨p, vs, v, hp, ob, hv, dv⟩ := h.kidD hm hs e2 rfl ha e1
    obtain ⟨dx, ks, ds, h1, h2, h3, h4⟩ := ob
    rw [h4] at q1
    have e' : (if c == c && fldAt f j (ks.zip ds) then ((ks.zip ds).map (·.2))[j]? else none) = some d := q1
    split at e'
    · rename_i hc
      simp only [Bool.and_eq_true] at hc
      exact ⟨_, hp, p, _, dx, _, v, rfl, h1, cl.cl, no.no, (fldAt_lookup hc.2 h2 h3).trans hv, k v S H (Evl.Ex.refl S) (h.push dv)⟩
    · cases e'
theorem je_kidX {i j : Nat} {x : Str} {jj : Int} {mo : Mode} {row : Sh} {u : Nat} {p2 p3 pos : Pos} (hj : jj = (j : Int) := by rfl) (hm : μ[i]? = some mo := by rfl) (hs : shS mo (.l row) = true := by rfl) (ha : row.at j = some .d := by rfl)
    (hN : X.N[i]? = some x := by rfl) (hx : Vis X.env.scope x := by first | exact Or.inl rfl | exact Or.inr (Or.inl rfl) | exact Or.inr (Or.inr rfl)) (hd : (x == ("__debug__" : Str)) = false := by decide) (hcd : (x == ("__classdict__" : Str)) = false := by decide) :
    JE X G E .d μ (.Subscript (.Name x p2) (.Constant (.int jj) u p3) pos) (mKidD i (.l row) Str.empty j) := by
  refine ⟨_, pe_ix ix_list (pe_var hN hx hd hcd) pe_int (by intro _ _; rfl), fun F S H σ ρ h Q k => ?_⟩
  unfold mKidD at k
  cases q1 : kidAt (.l row) Str.empty j (ρ.getD i .non) with
  | none => rw [q1] at k; exact k.elim
  | some d =>
    rw [q1] at k
    obtain ⟨e1, e2⟩ := kidAt_kids q1
    obtain ⟨p, vs, v, hp, ob, hv, dv⟩ := h.kidD hm hs e2 rfl ha e1
    exact ⟨_, hp, p, vs, _, v, rfl, rfl, .inl (.inl ob), by rw [hj, atI_nat]; exact hv, k v S H (Evl.Ex.refl S) (h.push dv)⟩
end
end MR

set_option Elab.async false
set_option linter.all false
set_option maxRecDepth 100000
set_option maxHeartbeats 1000000
/-! MB21: new fields; stores into owned lists; what is walked while it is owned. -/
namespace MR
open PySem L2 PySem.Spec PyProof.Rows
section
variable {K : PySem.W.Frag} {G : Cl} {E : XS} {C : SC} {μ μ' μ1 μa : List Mode} {r : Mode} {X : Cx} {F : Fo} {S S' H H' : Hp} {σ : L2.St} {ρ : List D}
theorem EnvOk.absorb {i : Nat} {mo : Mode} {s : Option V} {d : D} (h : EnvOk K G F S H (r :: μ) (s :: σ) (d :: ρ)) (hm : μ[i]? = some mo) : ∃ f0 fi, SlotOk K G F.pin S H r (some s) d f0 ∧ SlotOk K G F.pin S H mo (σ[i]?) (ρ.getD i .non) fi ∧ Fp F S H (fi ++ f0) ∧ EnvOk K G (F.lend H (fi ++ f0)) S H (μ.set i .x) σ ρ := by
  obtain ⟨fi, s1, p1, h1⟩ := h.lend (i := i + 1) (m := mo) (by simpa using hm)
  have h1' : EnvOk K G (F.lend H fi) S H (r :: μ.set i .x) (s :: σ) (d :: ρ) := h1
  obtain ⟨f0, s2, p2, h2⟩ := h1'.lend (i := 0) (m := r) rfl
  have h2' : EnvOk K G ((F.lend H fi).lend H f0) S H (.x :: μ.set i .x) (s :: σ) (d :: ρ) := h2
  refine ⟨f0, fi, by simpa [Fo.lend] using s2, by simpa using s1, ⟨?_, ?_, ?_⟩, ?_⟩
  · rw [List.nodup_append]
    refine ⟨p1.nd, p2.nd, fun a ha b hb e => ?_⟩
    subst e
    have := (p2.fr a hb).2
    rw [Fo.lend_in ha] at this
    obtain ⟨o, q, nt0⟩ := p1.th a ha
    rw [q, ntOnly_of nt0] at this
    cases this
  · intro a ha
    rcases List.mem_append.mp ha with ha | ha
    · exact p1.fr a ha
    · have := p2.fr a ha
      by_cases z : a ∈ fi
      · exact p1.fr a z
      · rw [Fo.lend_out z] at this
        exact this
  · intro a ha
    rcases List.mem_append.mp ha with ha | ha
    · exact p1.th a ha
    · exact p2.th a ha
  · rw [Fo.lend_app]
    exact h2'.tail
def setSh : Mode → Sh → Mode
  | .w _, b => .w b
  | .s k _, b => .s k b
  | m, _ => m
/-- x.f = e, a field that is not there yet -/
def mFldNew (i c : Nat) (f : Str) (s1 : Sh) (a : ME) : MS := fun ρ => match a ρ with
  | .ok d ρ1 => match ρ1.getD i .non with
    | .ins c' fs => if c = c' ∧ (fs.lookup f).isNone = true ∧ fs.length < 900 ∧ (s1 = .d ∨ kindOk s1 d = true) then .nx (ρ1.set i (.ins c (fs ++ [(f, d)]))) else .bad
    | _ => .bad
  | .exc e ρ1 => .exc e ρ1
  | .bad => .bad
theorem putF_new {f : Str} {v : V} : ∀ {fs : List (Str × V)}, fs.lookup f = none → putF f v fs = fs ++ [(f, v)]
  | [], _ => rfl
  | (g, x) :: r, h => by
    simp only [List.lookup] at h
    cases q : f == g with
    | true => rw [q] at h; cases h
    | false =>
      rw [q] at h
      have n : ¬ g = f := fun z => by rw [z] at q; simp at q
      show (if g = f then (g, v) :: r else (g, x) :: putF f v r) = _
      rw [if_neg n, putF_new h]
      rfl
/-- a value in the head slot, as a thing of a shape -/
theorem head_ow {pin : Nat → Addr} {s1 : Sh} {v : V} {d : D} {f0 : List Addr} (h : SlotOk K G pin S H r (some (some v)) d f0) (hr : (r = .d ∧ s1 = .d) ∨ (r = .o ∧ oSh s1 = true)) (hk : s1 = .d ∨ kindOk s1 d = true) : Ow K G S H false s1 [v] [d] f0 := by
  rcases hr with ⟨rfl, rfl⟩ | ⟨rfl, hs⟩
  · obtain ⟨e, w, e2, q⟩ := h
    cases e
    cases e2
    exact .dat q
  · have hk' : kindOk s1 d = true := by
      rcases hk with rfl | hk
      · cases hs
      · exact hk
    obtain ⟨p, hp, ow, _⟩ := slot_ow h (show shS .o s1 = true from hs) hk'
    cases hp
    exact ow
theorem js_fldNew {i c : Nat} {f x : Str} {mo : Mode} {row s1 : Sh} {e : Expr} {a : ME} {p2 pos' pos : Pos} (cl : ClsO X.K G c) (no : FldO X.K G c f) (he : JE X G C.E r μ e a) (hm : μ[i]? = some mo := by rfl) (hs : shS mo (.i c row) = true := by rfl) (hfi : row.fin = true := by rfl) (hr : (r = .d ∧ s1 = .d) ∨ (r = .o ∧ oSh s1 = true) := by first | exact .inl ⟨rfl, rfl⟩ | exact .inr ⟨rfl, rfl⟩) (w : ModesLe C.μx μ = true := by rfl)
    (ho : mo ≠ .o := by decide) (hN : X.N[i]? = some x := by rfl) (hx : Vis X.env.scope x := by first | exact Or.inl rfl | exact Or.inr (Or.inl rfl) | exact Or.inr (Or.inr rfl)) (hd : (x == ("__debug__" : Str)) = false := by decide) (hcd : (x == ("__classdict__" : Str)) = false := by decide)
    (hsw : swapsWith e (some (.Attribute (.Name x p2) f pos')) pos.line X.env = pure false := by rfl) : JS X G C μ (μ.set i (setSh mo (.i c (row.snoc s1)))) (.Assign [.Attribute (.Name x p2) f pos'] e pos) (mFldNew i c f s1 a) := by
  obtain ⟨t, p, s⟩ := he.ex
  refine ⟨_, ps_fld (pe_var hN hx hd hcd) p hsw, fun F S H σ ρ h Dn k => s F S H σ ρ h _ ?_⟩
  unfold mFldNew at k
  cases q : a ρ with
  | ok d ρ1 =>
    rw [q] at k
    intro v S1 H1 e1 h1
    dsimp only at k
    have hi : i < μ.length := (List.getElem?_eq_some_iff.mp hm).1
    split at k
    · rename_i c' fs eg
      split at k
      · rename_i hc
        obtain ⟨hc1, hc2, hc3, hc4⟩ := hc
        subst hc1
        obtain ⟨f0, fi, q0, qi, fp, hl⟩ := h1.absorb hm
        obtain ⟨pp, hp, ow, _⟩ := slot_ow qi hs (by rw [eg]; simp [kindOk])
        have w0 := head_ow q0 hr hc4
        rw [eg] at ow
        generalize eD : D.ins c fs = dd at ow
        cases ow with
        | @ins _ dx _ _ ks vs ds fq a1 a2 a3 =>
          cases eD
          have ln := a3.length
          have nl : (ks.zip vs).lookup f = none := by
            have hc2' := hc2
            rw [← lookup_zip a2 ln] at hc2'
            exact Option.isNone_iff_eq_none.mp hc2'
          refine ⟨_, hp, pp, _, dx, _, rfl, a1, cl.cl, no.no, by rw [zip_len a2 ln]; omega, ?_⟩
          rw [putF_new nl]
          have ez : ks.zip vs ++ [(f, v)] = (ks ++ [f]).zip (vs ++ [v]) := by rw [List.zip_append a2]; rfl
          have ez2 : ks.zip ds ++ [(f, d)] = (ks ++ [f]).zip (ds ++ [d]) := by rw [List.zip_append (a2.trans ln)]; rfl
          rw [ez]
          rw [ez2] at k
          refine k σ S1 _ e1 ?_
          obtain ⟨n1, n2, n3⟩ := List.nodup_append.mp fp.nd
          obtain ⟨n4, n5⟩ := List.nodup_cons.mp n1
          have np0 : pp ∉ f0 := fun z => n3 pp List.mem_cons_self pp z rfl
          have wn : Ow X.K G S1 (upd H1 pp (.ins (G.cA c) dx ((ks ++ [f]).zip (vs ++ [v])))) false (.i c (row.snoc s1)) [.ref pp] [.ins c ((ks ++ [f]).zip (ds ++ [d]))] (pp :: (fq ++ f0)) := by
            refine .ins upd_same (by simp [a2]) ?_
            exact Ow.snoc (a3.mono (Evl.Ex.refl S1) fun z hz => upd_ne (by rintro rfl; exact n4 hz)) rfl hfi (w0.mono (Evl.Ex.refl S1) fun z hz => upd_ne (by rintro rfl; exact np0 hz))
          have sn : SlotOk X.K G F.pin S1 (upd H1 pp (.ins (G.cA c) dx ((ks ++ [f]).zip (vs ++ [v])))) (setSh mo (.i c (row.snoc s1))) (σ[i]?) (.ins c ((ks ++ [f]).zip (ds ++ [d]))) (pp :: (fq ++ f0)) := by
            cases mo with
            | w a => exact ⟨pp, hp, wn⟩
            | s kk a =>
              have := qi.1
              rw [hp] at this
              cases this
              exact ⟨hp, wn⟩
            | o => exact absurd rfl ho
            | _ => cases hs
          have := hl.unlend (m' := setSh mo (.i c (row.snoc s1))) (d' := .ins c ((ks ++ [f]).zip (ds ++ [d]))) (H2 := upd H1 pp (.ins (G.cA c) dx ((ks ++ [f]).zip (vs ++ [v])))) (fp' := pp :: (fq ++ f0)) hi fp (fun z hz => upd_ne fun y => hz (by rw [y]; exact List.mem_append_left _ List.mem_cons_self)) sn (by simpa using fp.nd) (fun z hz => by simpa using hz)
          exact this
      · exact k.elim
    · exact k.elim
  | exc e1 ρ1 => rw [q] at k; exact xout w k
  | bad => rw [q] at k; exact k
/-! ### x[j] = e: data at a written place of an owned list -/
theorem Ow.setD {q : Bool} {row : Sh} {vs : List V} {ds : List D} {fp : List Addr} (h : Ow K G S H q row vs ds fp) : ∀ {j : Nat} {v : V} {d : D}, q = true → row.at j = some .d → j < ds.length → Dat K G S v d → Ow K G S H true row (vs.set j v) (ds.set j d) fp := by
  induction h with
  | @cons s row v0 d0 vs ds f1 f2 a1 a2 i1 i2 =>
    intro j v d _ e1 hl dd
    cases j with
    | zero =>
      cases e1
      cases a1 with
      | dat _ => exact .cons (.dat dd) a2
    | succ j => exact .cons a1 (i2 rfl e1 (by simpa using hl) dd)
  | @all s v0 d0 vs ds f1 f2 a1 a2 i1 i2 =>
    intro j v d _ e1 hl dd
    cases j with
    | zero =>
      cases e1
      cases a1 with
      | dat _ => exact .all (.dat dd) a2
    | succ j => exact .all a1 (i2 rfl (by cases e1; cases j <;> rfl) (by simpa using hl) dd)
  | nil => intro j v d _ _ hl _; simp at hl
  | all0 => intro j v d _ _ hl _; simp at hl
  | _ => intro j v d q; cases q
def mSetX (i j : Nat) (a : ME) : MS := fun ρ => match a ρ with
  | .ok d ρ1 => match ρ1.getD i .non with
    | .lst ds => if j < ds.length then .nx (ρ1.set i (.lst (ds.set j d))) else .bad
    | _ => .bad
  | .exc e ρ1 => .exc e ρ1
  | .bad => .bad
theorem js_setX {i j : Nat} {x : Str} {jj : Int} {mo : Mode} {row : Sh} {u : Nat} {e : Expr} {a : ME} {p2 p3 pos' pos : Pos} (he : JE X G C.E .d μ e a) (hj : jj = (j : Int) := by rfl) (hm : μ[i]? = some mo := by rfl) (hs : shS mo (.l row) = true := by rfl) (ha : row.at j = some .d := by rfl) (w : ModesLe C.μx μ = true := by rfl)
    (hN : X.N[i]? = some x := by rfl) (hx : Vis X.env.scope x := by first | exact Or.inl rfl | exact Or.inr (Or.inl rfl) | exact Or.inr (Or.inr rfl)) (hd : (x == ("__debug__" : Str)) = false := by decide) (hcd : (x == ("__classdict__" : Str)) = false := by decide)
    (hav : ∀ v, assign (.Subscript (.Name x p2) (.Constant (.int jj) u p3) pos') X.env v = (do
      let ov ← holding [v] (eval (.Name x p2) X.env)
      let iv ← holding [v, ov] (eval (.Constant (.int jj) u p3) X.env)
      standAt pos'
      holding [v, ov, iv] (setItem ov iv v)
      release [v, ov, iv] []) := by intro _; rfl)
    (hsw : swapsWithSole [.Subscript (.Name x p2) (.Constant (.int jj) u p3) pos'] e pos.line X.env = pure false := by rfl) (hw : swappedStores [.Subscript (.Name x p2) (.Constant (.int jj) u p3) pos'] e X.env = pure none := by rfl)
    (h1 : (assignEach [.Subscript (.Name x p2) (.Constant (.int jj) u p3) pos'] X.env).map (·.2) = [assign (.Subscript (.Name x p2) (.Constant (.int jj) u p3) pos') X.env] := by rfl) : JS X G C μ μ (.Assign [.Subscript (.Name x p2) (.Constant (.int jj) u p3) pos'] e pos) (mSetX i j a) := by
  obtain ⟨t, p, s⟩ := he.ex
  refine ⟨_, ps_asg p (pg_sub (pe_var hN hx hd hcd) pe_int set_list hav) hsw hw h1, fun F S H σ ρ h Dn k => s F S H σ ρ h _ ?_⟩
  unfold mSetX at k
  cases q : a ρ with
  | ok d ρ1 =>
    rw [q] at k
    intro v S1 H1 e1 hh
    dsimp only at k
    split at k
    · rename_i ds eg
      split at k
      · rename_i hl
        have hi : i < μ.length := (List.getElem?_eq_some_iff.mp hm).1
        obtain ⟨fp, sl, fo, hle⟩ := hh.tail.lend hm
        obtain ⟨pp, hp, ow, back⟩ := slot_ow sl hs (by rw [eg]; rfl)
        rw [eg] at ow
        generalize eD : D.lst ds = dd at ow
        cases ow with
        | @lst _ _ vs _ fq a1 a2 =>
          cases eD
          have ln := a2.length
          refine ⟨_, hp, pp, vs, jj, j, rfl, rfl, a1, ?_, ?_⟩
          · rw [hj]
            unfold ixN
            rw [if_pos (by omega), if_pos (by omega)]
            rfl
          · refine k σ S1 _ e1 ?_
            obtain ⟨n4, n5⟩ := List.nodup_cons.mp fo.nd
            have wn : Ow X.K G S1 (upd H1 pp (.lst (vs.set j v))) false (.l row) [.ref pp] [.lst (ds.set j d)] (pp :: fq) := .lst upd_same (((a2.setD rfl ha hl hh.head)).mono (Evl.Ex.refl S1) fun z hz => upd_ne (by rintro rfl; exact n4 hz))
            have := hle.unlend (m' := mo) (d' := .lst (ds.set j d)) (H2 := upd H1 pp (.lst (vs.set j v))) (fp' := pp :: fq) hi fo (fun z hz => upd_ne fun y => hz (by rw [y]; exact List.mem_cons_self)) (back S1 _ _ _ wn) fo.nd fun z hz => hz
            have e3 : (μ.set i .x).set i mo = μ := set_back hm
            have e4 : μ.set i mo = μ := by rw [List.set_set] at e3; exact e3
            rwa [e4] at this
      · exact k.elim
    · exact k.elim
  | exc e1 ρ1 => rw [q] at k; exact xout w k
  | bad => rw [q] at k; exact k
end
end MR

set_option Elab.async false
set_option linter.all false
set_option maxRecDepth 100000
set_option maxHeartbeats 1000000
/-! MB22: sorted of tuples that begin with texts, each list of texts but once: lists of such, dicts with such keys. -/
namespace MR.TX
open PySem PySem.W PyProof.Rows
/-- by the first text that differs -/
def lexT : List Str → List Str → Bool
  | x :: xs, y :: ys => if x = y then lexT xs ys else decide (x.cps.toList < y.cps.toList)
  | _, _ => false
inductive PreS : List Value → List Str → Prop
  | nil (rest : List Value) : PreS rest []
  | cons {x : Str} {t : Tok} {vs : List Value} {ks : List Str} : PreS vs ks → PreS (.str x t :: vs) (x :: ks)
/-- v is a tuple that begins with the texts ks -/
def TK (h : Heap) (v : Value) (ks : List Str) : Prop := ∃ (a : Addr) (items : Array Value), v = .ref a ∧ IsTup h a items ∧ PreS items.toList ks
theorem TK.keeps {h h' : Heap} {v : Value} {ks : List Str} (x : TK h v ks) (k : ∀ b o, h.get? b = some o → o.cls = .type "tuple" → h'.get? b = some o) : TK h' v ks := by
  obtain ⟨a, items, e, ⟨o, ho, hc, n, hd⟩, p⟩ := x
  exact ⟨a, items, e, ⟨o, k _ _ ho hc, hc, n, hd⟩, p⟩
section
variable {prog : Program} {w : World} {A : Around} {E : Value → Shared → Prop} {s : Shared}
theorem same_eq {v : Value} {Q : Bool → Shared → Prop} (h : Q true s) : wpAny (model prog w) A (eqBool v v) Q E s := by
  unfold eqBool
  refine wpAny_holding (wpAny_ite_split (fun _ => ?_) fun n => absurd (beq_self_eq_true v) n)
  exact wpAny_bind (wpAny_rule (wpAny_pure h))
theorem lex_same {b fin : Bool} {Q : Bool → Shared → Prop} : ∀ (xs : List Value) (i : Nat), Q fin s → KatLex prog w A b fin Q (xs.zip xs) i s
  | [], _, h => kat_nil h
  | x :: xs, i, h => kat_cons (same_eq (kat_yes (lex_same xs (i + 1) h)))
theorem lex_pre {b fin : Bool} {Q : Bool → Shared → Prop} : ∀ {xs ys : List Value} {ks ls : List Str} (i : Nat), PreS xs ks → PreS ys ls → ks.length = ls.length → ks ≠ ls → Q (lexT ks ls) s → KatLex prog w A b fin Q (xs.zip ys) i s
  | _, _, _, _, _, .nil _, .nil _, _, n, _ => absurd rfl n
  | _, _, _, _, _, .nil _, .cons _, l, _, _ => by simp at l
  | _, _, _, _, _, .cons _, .nil _, l, _, _ => by simp at l
  | _, _, _, _, i, .cons (x := x) (t := t) (vs := vs) (ks := ks) p, .cons (x := y) (t := u) (vs := ws) (ks := ls) q, l, n, h => by
    refine kat_cons (eqBool_str ?_)
    have h' : Q (if x = y then lexT ks ls else decide (x.cps.toList < y.cps.toList)) s := h
    by_cases e : x = y
    · subst e
      rw [if_pos rfl] at h'
      rw [beq_self_eq_true]
      exact kat_yes (lex_pre (i + 1) p q (by simpa using l) (fun z => n (by rw [z])) h')
    · rw [if_neg e] at h'
      rw [show (x == y) = false from beq_eq_false_iff_ne.mpr e]
      exact kat_no (oneLt_any_str h')
theorem firsts_tk {h : Heap} {key : Value → List Str} : ∀ vs : List Value, (∀ v ∈ vs, TK h v (key v) ∧ 0 < (key v).length) → ∃ fs, KatTups h vs fs ∧ fs.length = vs.length ∧ ∀ f ∈ fs, ∃ x t, f = Value.str x t
  | [], _ => ⟨[], KatTups.nil, rfl, fun f hf => by cases hf⟩
  | v :: vs, x => by
    obtain ⟨fs, k, hl, hi⟩ := firsts_tk vs fun u hu => x u (List.mem_cons_of_mem _ hu)
    obtain ⟨⟨a, items, ev, ⟨o, ho, hc, n, hd⟩, p⟩, hp⟩ := x v List.mem_cons_self
    subst ev
    generalize key (.ref a) = ks at p hp
    generalize ei : items.toList = its at p
    cases p with
    | nil => simp at hp
    | @cons y t ws _ p =>
      refine ⟨.str y t :: fs, KatTups.cons ho hc hd ?_ k, by simp [hl], fun f hf => ?_⟩
      · have z := congrArg (fun l : List Value => l[0]?) ei
        simpa using z
      · rcases List.mem_cons.mp hf with rfl | hf
        · exact ⟨y, t, rfl⟩
        · exact hi f hf
theorem kind_tk {vs : List Value} {r : Value → Int} {key : Value → List Str} {m : Nat} (h2 : 2 ≤ vs.length) (hm : 0 < m) (x : ∀ v ∈ vs, TK s.heap v (key v) ∧ (key v).length = m) (inj : ∀ u ∈ vs, ∀ v ∈ vs, key u = key v → u = v)
    (hr : ∀ u ∈ vs, ∀ v ∈ vs, lexT (key u) (key v) = decide (r u < r v)) (Q : SortKind → Shared → Prop) (h : ∀ κ, TS.Cmp prog w A s κ (pairsOf vs) r → Q κ s) : wpAny (model prog w) A (keyKind' vs.toArray) Q E s := by
  obtain ⟨fs, k, hl, hi⟩ := firsts_tk (key := key) vs fun v hv => ⟨(x v hv).1, by rw [(x v hv).2]; exact hm⟩
  refine kat_kind (T := Value.type "str") k (by omega) (fun f hf => ?_) rfl (h _ fun p q hp hq Q' E' hQ => ?_)
  · obtain ⟨y, t, rfl⟩ := hi f hf
    exact Looks.of_pure rfl
  · rw [pairsOf_toList] at hp hq
    have mp := (mem_zip_self hp).2
    have mq := (mem_zip_self hq).2
    obtain ⟨⟨a, xs, e1, ⟨o, ho, hc, n, hd⟩, p1⟩, l1⟩ := x _ mp
    obtain ⟨⟨b, ys, e2, ⟨o', ho', hc', n', hd'⟩, p2⟩, l2⟩ := x _ mq
    have hrr := hr _ mp _ mq
    rw [← hrr] at hQ
    by_cases e : key p.1 = key q.1
    · have ee := inj _ mp _ mq e
      have self : lexT (key p.1) (key q.1) = false := by
        rw [hrr, ee]
        exact decide_eq_false (Int.lt_irrefl _)
      rw [self] at hQ
      have ab : a = b := by rw [e1, e2] at ee; cases ee; rfl
      subst ab
      rw [ho] at ho'
      cases ho'
      rw [hd] at hd'
      cases hd'
      rw [e1, e2]
      refine kat_lt ho hd ho hd ?_
      rw [show decide (xs.size < xs.size) = false from decide_eq_false (Nat.lt_irrefl _)]
      exact lex_same _ 0 hQ
    · rw [e1, e2]
      rw [e1] at p1 l1 hQ e
      rw [e2] at p2 l2 hQ e
      exact kat_lt ho hd ho' hd' (lex_pre 0 p1 p2 (l1.trans l2.symm) e hQ)
/-- the rank of a list of texts among others -/
def rank (ks : List (List Str)) (k : List Str) : Int := ((ks.filter fun j => lexT j k).length : Int)
theorem lexT_irr : ∀ k : List Str, lexT k k = false
  | [] => rfl
  | x :: xs => by
    show (if x = x then lexT xs xs else _) = false
    rw [if_pos rfl]
    exact lexT_irr xs
theorem str_ext {x y : Str} (h : x.cps.toList = y.cps.toList) : x = y := by
  cases x; cases y
  simp only at h
  congr 1
  exact Array.toList_inj.mp h
theorem lexT_asym : ∀ {k l : List Str}, lexT k l = true → lexT l k = false
  | [], _, h => by simp [lexT] at h
  | x :: xs, [], h => by simp [lexT] at h
  | x :: xs, y :: ys, h => by
    have h' : (if x = y then lexT xs ys else decide (x.cps.toList < y.cps.toList)) = true := h
    show (if y = x then lexT ys xs else decide (y.cps.toList < x.cps.toList)) = false
    by_cases e : x = y
    · subst e
      rw [if_pos rfl] at h' ⊢
      exact lexT_asym h'
    · rw [if_neg e] at h'
      rw [if_neg (Ne.symm e)]
      have := of_decide_eq_true h'
      exact decide_eq_false (List.lt_asymm this)
theorem lexT_tri : ∀ {k l : List Str}, k.length = l.length → lexT k l = false → lexT l k = false → k = l
  | [], [], _, _, _ => rfl
  | [], _ :: _, h, _, _ => by simp at h
  | _ :: _, [], h, _, _ => by simp at h
  | x :: xs, y :: ys, hl, h1, h2 => by
    have h1' : (if x = y then lexT xs ys else decide (x.cps.toList < y.cps.toList)) = false := h1
    have h2' : (if y = x then lexT ys xs else decide (y.cps.toList < x.cps.toList)) = false := h2
    by_cases e : x = y
    · subst e
      rw [if_pos rfl] at h1' h2'
      rw [lexT_tri (by simpa using hl) h1' h2']
    · rw [if_neg e] at h1'
      rw [if_neg (Ne.symm e)] at h2'
      exact absurd (str_ext (List.le_antisymm (List.not_lt.mp (of_decide_eq_false h2')) (List.not_lt.mp (of_decide_eq_false h1')))) e
theorem lexT_trans : ∀ {k l m : List Str}, lexT k l = true → lexT l m = true → lexT k m = true
  | [], _, _, h, _ => by simp [lexT] at h
  | _ :: _, [], _, h, _ => by simp [lexT] at h
  | _ :: _, _ :: _, [], _, h => by simp [lexT] at h
  | x :: xs, y :: ys, z :: zs, h1, h2 => by
    have h1' : (if x = y then lexT xs ys else decide (x.cps.toList < y.cps.toList)) = true := h1
    have h2' : (if y = z then lexT ys zs else decide (y.cps.toList < z.cps.toList)) = true := h2
    show (if x = z then lexT xs zs else decide (x.cps.toList < z.cps.toList)) = true
    by_cases e1 : x = y
    · subst e1
      rw [if_pos rfl] at h1'
      by_cases e2 : x = z
      · subst e2
        rw [if_pos rfl] at h2' ⊢
        exact lexT_trans h1' h2'
      · rw [if_neg e2] at h2' ⊢
        exact h2'
    · rw [if_neg e1] at h1'
      by_cases e2 : y = z
      · subst e2
        rw [if_neg e1]
        exact h1'
      · rw [if_neg e2] at h2'
        have a := of_decide_eq_true h1'
        have b := of_decide_eq_true h2'
        have c := List.lt_trans a b
        by_cases e3 : x = z
        · subst e3
          exact absurd c (List.lt_irrefl _)
        · rw [if_neg e3]
          exact decide_eq_true c
theorem rank_lt {ks : List (List Str)} {k l : List Str} (hk : k ∈ ks) (hl : l ∈ ks) (hn : k.length = l.length) : lexT k l = decide (rank ks k < rank ks l) := by
  have sub : ∀ {k l : List Str}, lexT k l = true → k ∈ ks → rank ks k < rank ks l := by
    intro k l h hk
    unfold rank
    have : (ks.filter fun j => lexT j k).length < (ks.filter fun j => lexT j l).length := by
      have le : ∀ js : List (List Str), (js.filter fun j => lexT j k).length ≤ (js.filter fun j => lexT j l).length := by
        intro js
        induction js with
        | nil => simp
        | cons j js ih =>
          by_cases q : lexT j k = true
          · simp only [List.filter_cons, q, lexT_trans q h, if_true, List.length_cons]
            omega
          · by_cases q2 : lexT j l = true
            · simp only [List.filter_cons, q, q2, if_true, if_false, Bool.false_eq_true, List.length_cons]
              omega
            · simp only [List.filter_cons, q, q2, if_false, Bool.false_eq_true]
              omega
      have st : ∀ js : List (List Str), k ∈ js → (js.filter fun j => lexT j k).length < (js.filter fun j => lexT j l).length := by
        intro js
        induction js with
        | nil => intro h; cases h
        | cons j js ih =>
          intro hj
          rcases List.mem_cons.mp hj with rfl | hj
          · have := le js
            simp only [List.filter_cons, lexT_irr, h, if_true, if_false, Bool.false_eq_true, List.length_cons]
            omega
          · have := ih hj
            by_cases q : lexT j k = true
            · simp only [List.filter_cons, q, lexT_trans q h, if_true, List.length_cons]
              omega
            · by_cases q2 : lexT j l = true
              · simp only [List.filter_cons, q, q2, if_true, if_false, Bool.false_eq_true, List.length_cons]
                omega
              · simp only [List.filter_cons, q, q2, if_false, Bool.false_eq_true]
                omega
      exact st ks hk
    omega
  cases h : lexT k l with
  | true => exact (decide_eq_true (sub h hk)).symm
  | false =>
    symm
    refine decide_eq_false fun z => ?_
    cases h2 : lexT l k with
    | true =>
      have := sub h2 hl
      omega
    | false =>
      rw [lexT_tri hn h h2] at z
      omega
/-- list.sort of such a list -/
theorem sort_tk {a : Addr} {vs : List Value} {n m : Nat} {key : Value → List Str} {Q : Value → Shared → Prop} (ho : s.heap.get? a = some (seqObj "list" vs.toArray n)) (h64 : vs.length < 64) (hm : 0 < m) (x : ∀ v ∈ vs, TK s.heap v (key v) ∧ (key v).length = m) (inj : ∀ u ∈ vs, ∀ v ∈ vs, key u = key v → u = v)
    (h : ∀ out : Array Value, out.toList.Perm vs → out.toList.Pairwise (fun u v => lexT (key v) (key u) = false) → Q .none { s with heap := sortedHeap s.heap a vs out }) : wpAny (model prog w) A (call (.builtin "list.sort") [.ref a]) Q E s := by
  have keep : ∀ b o, s.heap.get? b = some o → o.cls = .type "tuple" → (TS.midHeap s.heap a vs).get? b = some o := fun b o e hc => TS.midHeap_old (by rintro rfl; rw [ho] at e; cases e; have c : Value.type "list" = Value.type "tuple" := hc; injection c with c; exact absurd c (by decide)) e
  have hr : ∀ u ∈ vs, ∀ v ∈ vs, lexT (key u) (key v) = decide (rank (vs.map key) (key u) < rank (vs.map key) (key v)) := fun u hu v hv => rank_lt (List.mem_map.mpr ⟨u, hu, rfl⟩) (List.mem_map.mpr ⟨v, hv, rfl⟩) ((x u hu).2.trans (x v hv).2.symm)
  refine wpAny_call_entry slot_list_sort ⟨_, ho, rfl⟩ entry_list_sort (SK.plain_sort (r := fun v => rank (vs.map key) (key v)) ho h64 (fun h2 Qk hQk => ?_) fun ps out o1 o2 o3 => ⟨_, rfl, ?_⟩) (args_list_sort _)
  · exact kind_tk (s := { s with heap := TS.midHeap s.heap a vs }) h2 hm (fun v hv => ⟨(x v hv).1.keeps keep, (x v hv).2⟩) inj hr Qk hQk
  · obtain ⟨p, o⟩ := TS.out_rank (r := fun v => rank (vs.map key) (key v)) o1 o2 o3
    refine h out p (List.Pairwise.imp_of_mem (fun {u v} hu hv q => ?_) o)
    rw [hr v (p.mem_iff.mp hv) u (p.mem_iff.mp hu)]
    exact decide_eq_false (by omega)
end
end MR.TX
namespace MR
open PySem L2 PySem.Spec PyProof.Rows
section
variable {X : Cx}
/-- sorted(xs): xs a list of tuples that begin with m texts, each lists of texts but once -/
def rSortTx (K : PySem.W.Frag) : List V → Hp → VK → Prop := fun vs H Q => ∃ (a : Addr) (xs : List V) (key : V → List Str) (m : Nat), vs = [V.ref a] ∧ SqL K H a xs ∧ xs.length < 64 ∧ 0 < m ∧
  (∀ x ∈ xs, ∃ t its, x = V.ref t ∧ SqT K H t its ∧ its.take m = (key x).map V.str ∧ (key x).length = m) ∧ (∀ x ∈ xs, ∀ y ∈ xs, key x = key y → x = y) ∧
  ∀ ys p, ys.Perm xs → ys.Pairwise (fun x y => TX.lexT (key y) (key x) = false) → H p = none → Q (.ref p) (upd H p (.lst ys))
theorem pre_of {its : List V} {us : List Value} {ks : List Str} (r : Vals its us) : ∀ {m : Nat}, its.take m = ks.map V.str → ks.length = m → TX.PreS us ks := by
  induction ks generalizing its us with
  | nil => intro m _ _; exact .nil _
  | cons k ks ih =>
    intro m h l
    cases m with
    | zero => simp at l
    | succ m =>
      cases r with
      | nil => simp at h
      | cons r1 r2 =>
        simp only [List.take_succ_cons, List.map_cons, List.cons.injEq] at h
        obtain ⟨h1, h2⟩ := h
        subst h1
        obtain ⟨t, rfl⟩ := r1
        exact .cons (ih r2 h2 (by simpa using l))
theorem cr_sortTx : CallR X (.builtin "sorted") (rSortTx X.K) := by
  intro pins s σ H vs us Q I r h
  obtain ⟨a, xs, key, m, rfl, hs, h64, hm, hx, inj, q⟩ := h
  obtain ⟨its, rv, hl, hz⟩ := I.list hs
  rw [Vals.ref1 r]
  obtain ⟨e1, e2⟩ := refs_back rv fun x hm => let ⟨t, _, e, _⟩ := hx x hm; ⟨t, e⟩
  have lk : its.length = xs.length := by rw [e1, List.length_map]
  have tk : ∀ v ∈ its, ∀ {h' : Heap}, (∀ b o, s.heap.get? b = some o → h'.get? b = some o) → TX.TK h' v (key (backV v)) ∧ (key (backV v)).length = m := fun v hv h' kp => by
    obtain ⟨t, rfl⟩ := e2 v hv
    obtain ⟨t', ti, et, ht, hp, hn⟩ := hx (.ref t) (by rw [e1]; exact List.mem_map.mpr ⟨_, hv, rfl⟩)
    cases et
    obtain ⟨us, ru, ⟨o, ho, hc, n, hd⟩, _⟩ := I.tuple ht
    exact ⟨⟨t, us.toArray, rfl, ⟨o, kp _ _ ho, hc, n, hd⟩, by rw [List.toList_toArray]; exact pre_of ru hp hn⟩, hn⟩
  have ij : ∀ u ∈ its, ∀ v ∈ its, key (backV u) = key (backV v) → u = v := fun u hu v hv e => by
    obtain ⟨t, rfl⟩ := e2 u hu
    obtain ⟨t', rfl⟩ := e2 v hv
    have := inj (.ref t) (by rw [e1]; exact List.mem_map.mpr ⟨_, hu, rfl⟩) (.ref t') (by rw [e1]; exact List.mem_map.mpr ⟨_, hv, rfl⟩) e
    cases this
    rfl
  refine Calls.call_function_entry kind_sorted plain_sorted entry_sorted (args_sorted1 _) (show wpAny _ _ _ _ _ _ from ?_)
  unfold Builtin.«sorted»
  refine wpAny_bind (m := checkCount "sorted" 1 1 _) (wpAny_pure (wpAny_bind (collect_list hl.isList ?_ (by rw [sizeLine_eq, lk]; omega))))
  refine wpAny_bind (wpAny_newList ?_ (by rw [sizeLine_eq, lk]; omega))
  generalize eh : (s.heap.push (seqObj "list" #[] 0)).update s.heap.objs.size (Obj.mapSeq (· ++ its.toArray)) = h1
  have sz : h1.objs.size = s.heap.objs.size + 1 := by rw [← eh, Heap.size_update, size_push']
  have k1 : ∀ b o, s.heap.get? b = some o → h1.get? b = some o := fun b o e => by
    rw [← eh, Heap.get?_update_ne _ _ _ _ (Nat.ne_of_lt (Heap.lt_size e))]
    exact Heap.get?_push_of_some _ e
  have hob : (h1.push (seqObj "list" its.toArray 0)).get? h1.objs.size = some (seqObj "list" its.toArray 0) := Heap.get?_push_size _ rfl
  have k2 : ∀ b o, s.heap.get? b = some o → (h1.push (seqObj "list" its.toArray 0)).get? b = some o := fun b o e => Heap.get?_push_of_some _ (k1 b o e)
  show wpAny _ _ _ _ _ { s with heap := h1.push (seqObj "list" its.toArray 0) }
  refine wpAny_bind (wpAny_holding (TX.sort_tk (s := { s with heap := h1.push (seqObj "list" its.toArray 0) }) (key := fun v => key (backV v)) hob (by omega) hm (fun v hv => tk v hv k2) ij fun out o1 o2 => wpAny_pure ⟨_, rfl, ?_⟩))
  have h3 : ∀ u ∈ out.toList, ∃ a, u = Value.ref a := fun u hu => e2 u (o1.mem_iff.mp hu)
  have hp : (out.toList.map backV).Perm xs := by rw [e1]; exact o1.map backV
  obtain ⟨ep, he⟩ := PyProof.Rows.sortedHeap_at (vs := its) (out := out) hob
  have kF : ∀ b o, s.heap.get? b = some o → (sortedHeap (h1.push (seqObj "list" its.toArray 0)) h1.objs.size its out).get? b = some o := fun b o e =>
    (PyProof.Rows.sortedHeap_old (Nat.ne_of_lt (by rw [sz]; exact Nat.lt_succ_of_lt (Heap.lt_size e))) (Heap.lt_size (k2 b o e))).trans (k2 b o e)
  refine ⟨.ref h1.objs.size, upd H h1.objs.size (.lst (out.toList.map backV)), I.laid (t' := s.toks) kF (by rw [sz]; exact Nat.le_succ _) ⟨by rw [hp.length_eq]; exact hz, out.toList, ep, vals_back h3, by rw [Array.toArray_toList]; exact he⟩, rfl, q _ _ hp ?_ (I.hok.fresh (by rw [sz]; exact Nat.le_succ _))⟩
  rw [List.pairwise_map]
  exact o2
def txts : List V → List Str
  | .str y :: vs => y :: txts vs
  | _ => []
theorem txts_map : ∀ x : List Str, txts (x.map V.str) = x
  | [] => rfl
  | y :: ys => by show y :: txts (ys.map V.str) = _; rw [txts_map ys]
/-- sorted(d): d a dict whose keys are tuples of m texts -/
theorem cr_sortTd (hc : X.calm = true) : CallR X (.builtin "sorted") (fun vs H Q => ∃ (d : Addr) (kvs : List (List Key × V)) (kk : List (List Str)) (m : Nat), vs = [V.ref d] ∧ Rd H d (.dT kvs) ∧ kvs.map (·.1) = kk.map (fun k => k.map Sum.inr) ∧ kk.length < 64 ∧ 0 < m ∧ (∀ k ∈ kk, k.length = m) ∧ kk.Nodup ∧
    ∀ (zs : List (List Str × Addr)) p, (zs.map (·.1)).Perm kk → (zs.map (·.1)).Pairwise (fun x y => TX.lexT y x = false) → (∀ z ∈ zs, H z.2 = some (.tup (z.1.map V.str))) → H p = none → Q (.ref p) (upd H p (.lst (zs.map fun z => V.ref z.2)))) := by
  intro pins s σ H vs us Q I r h
  obtain ⟨d, kvs, kk, m, rfl, hd, hk, h64, hm, hlen, nd, q⟩ := h
  rw [Vals.ref1 r]
  obtain ⟨z, hs, ks, pr, o, es, ep, ho, hx, hdt, he, hn⟩ := (show ObjOk X.prog X.w H s.heap d (.dT kvs) from hd.ok I.hok)
  have l1 : es.size = ks.length := size_of_entries he
  have l2 : kvs.length = ks.length := Paired.length pr
  have l3 : kvs.length = kk.length := by have := congrArg List.length hk; simpa using this
  refine Calls.call_function_entry kind_sorted plain_sorted entry_sorted (args_sorted1 _) (show wpAny _ _ _ _ _ _ from ?_)
  unfold Builtin.«sorted»
  refine wpAny_bind (m := checkCount "sorted" 1 1 _) (wpAny_pure (wpAny_bind (PySem.W.kdu_collect (A := X.A.in1) (kdl_raw hs hx hdt) (I.ok.hd hc) ho (by rw [sizeLine_eq]; omega) fun h' tk acc kp it => ?_)))
  have ea : acc.toList = ks.map fun c => Value.ref c.2.1 := by
    have hl : acc.toList.length = ks.length := by rw [Array.length_toList, it.1, l1]
    refine List.ext_getElem (by simpa using hl) fun j g1 g2 => ?_
    have gj : j < ks.length := by omega
    obtain ⟨en, hen, hv⟩ := it.2 j acc.toList[j] (by rw [← Array.getElem?_toList, List.getElem?_eq_getElem g1])
    have qe := entry_at he j
    rw [hen, List.getElem?_eq_getElem gj] at qe
    have e2 : en = entryOfKey (tupleKind (mixKind X.prog X.w)) ks[j] := Option.some.inj qe
    rw [hv, e2, List.getElem_map]
    rfl
  -- what stands at the keys' places
  have at_ : ∀ (j : Nat) (g1 : j < ks.length) (g2 : j < kk.length), H (ks[j].2.1) = some (.tup (kk[j].map V.str)) := by
    intro j g1 g2
    have gk : j < kvs.length := by omega
    have pj : ∀ {ps : List (List Key × V)} {qs : List (List Key × Addr × Value)}, KT H ps qs → ∀ (j : Nat) (a : j < ps.length) (b : j < qs.length), ps[j].1 = qs[j].1 ∧ H qs[j].2.1 = some (.tup (ps[j].1.map kV)) := by
      intro ps qs h
      induction h with
      | nil => intro j a; exact absurd a (by simp)
      | cons h0 _ ih =>
        intro j a b
        cases j with
        | zero => exact ⟨h0.1, h0.2.1⟩
        | succ j => exact ih j (by simpa using a) (by simpa using b)
    have e1 := (pj pr j gk g1).2
    have e2 : kvs[j].1 = kk[j].map Sum.inr := by
      have := congrArg (fun l : List (List Key) => l[j]?) hk
      simp only [List.getElem?_map, List.getElem?_eq_getElem gk, List.getElem?_eq_getElem g2, Option.map_some, Option.some.injEq] at this
      exact this
    rw [e1, e2, List.map_map]
    rfl
  generalize eits : acc.toList = its at ea
  have lk : its.length = kk.length := by rw [ea, List.length_map]; omega
  obtain ⟨key, hkey⟩ : ∃ key : Value → List Str, ∀ a x, H a = some (.tup (x.map V.str)) → key (.ref a) = x := ⟨fun v => match v with
    | .ref a => (match H a with
      | some (.tup vs) => txts vs
      | _ => [])
    | _ => [], fun a x e => by simp only [e, txts_map]⟩
  have hks : ∀ (j : Nat) (g : j < kk.length), ∃ a, its[j]? = some (.ref a) ∧ H a = some (.tup (kk[j].map V.str)) := fun j g => by
    have g1 : j < ks.length := by omega
    exact ⟨ks[j].2.1, by rw [ea, List.getElem?_map, List.getElem?_eq_getElem g1]; rfl, at_ j g1 g⟩
  have ek : its.map key = kk := by
    refine List.ext_getElem (by simpa using lk) fun j g1 g2 => ?_
    obtain ⟨a, h1, h2⟩ := hks j g2
    rw [List.getElem_map]
    have : its[j]'(by simpa using g1) = .ref a := by
      rw [List.getElem?_eq_getElem (by simpa using g1)] at h1
      exact Option.some.inj h1
    rw [this, hkey a _ h2]
  have mem : ∀ v ∈ its, ∃ (j : Nat) (a : Addr) (g : j < kk.length), its[j]? = some v ∧ v = .ref a ∧ H a = some (.tup (kk[j].map V.str)) := fun v hv => by
    obtain ⟨j, hj⟩ := List.mem_iff_getElem?.mp hv
    have g : j < kk.length := by have := (List.getElem?_eq_some_iff.mp hj).1; omega
    obtain ⟨a, h1, h2⟩ := hks j g
    rw [hj] at h1
    exact ⟨j, a, g, hj, Option.some.inj h1, h2⟩
  refine wpAny_bind (wpAny_newList ?_ (by rw [sizeLine_eq, lk]; omega))
  have hob : (h'.push (seqObj "list" its.toArray 0)).get? h'.objs.size = some (seqObj "list" its.toArray 0) := Heap.get?_push_size _ rfl
  have k2 : ∀ b o, s.heap.get? b = some o → (h'.push (seqObj "list" its.toArray 0)).get? b = some o := fun b o e => Heap.get?_push_of_some _ (kp b o e)
  have I1 : Inv X pins σ H { s with heap := h', toks := tk } := I.kept kp
  show wpAny _ _ _ _ _ { s with heap := h'.push (seqObj "list" its.toArray 0), toks := tk }
  refine wpAny_bind (wpAny_holding (TX.sort_tk (s := { s with heap := h'.push (seqObj "list" its.toArray 0), toks := tk }) (key := key) hob (by omega) hm (fun v hv => ?_) (fun u hu v hv e => ?_) fun out o1 o2 => wpAny_pure ⟨_, rfl, ?_⟩))
  · obtain ⟨j, a, g, h1, rfl, h2⟩ := mem v hv
    rw [hkey a _ h2]
    obtain ⟨us, ru, ⟨o3, ho3, hc3, n3, hd3⟩, _⟩ := I.tuple (Or.inl (Or.inl h2))
    exact ⟨⟨a, us.toArray, rfl, ⟨o3, k2 _ _ ho3, hc3, n3, hd3⟩, by rw [List.toList_toArray]; exact pre_of ru (m := kk[j].length) (by rw [← List.length_map (f := V.str), List.take_length]) rfl⟩, hlen _ (List.getElem_mem _)⟩
  · obtain ⟨i, a, g, h1, rfl, h2⟩ := mem u hu
    obtain ⟨j, b, g', h3, rfl, h4⟩ := mem v hv
    rw [hkey a _ h2, hkey b _ h4] at e
    have ij : i = j := (List.getElem_inj nd).mp e
    subst ij
    rw [h1] at h3
    exact Option.some.inj h3
  · have h3 : ∀ u ∈ out.toList, u ∈ its := fun u hu => o1.mem_iff.mp hu
    obtain ⟨eq2, he2⟩ := PyProof.Rows.sortedHeap_at (vs := its) (out := out) hob
    have kF : ∀ b o, h'.get? b = some o → (sortedHeap (h'.push (seqObj "list" its.toArray 0)) h'.objs.size its out).get? b = some o := fun b o e =>
      (PyProof.Rows.sortedHeap_old (Nat.ne_of_lt (Heap.lt_size e)) (Heap.lt_size (show (h'.push (seqObj "list" its.toArray 0)).get? b = some o from Heap.get?_push_of_some _ e))).trans (Heap.get?_push_of_some _ e)
    obtain ⟨ad, had⟩ : ∃ ad : Value → Addr, ∀ a, ad (.ref a) = a := ⟨fun v => match v with | .ref a => a | _ => 0, fun _ => rfl⟩
    have ez : (out.toList.map fun v => (key v, ad v)).map (fun z => V.ref z.2) = out.toList.map backV := by
      rw [List.map_map]
      refine List.map_congr_left fun v hv => ?_
      obtain ⟨j, a, g, h1, rfl, h2⟩ := mem v (h3 v hv)
      show V.ref (ad (.ref a)) = V.ref a
      rw [had]
    have hr : ∀ u ∈ out.toList, ∃ a, u = Value.ref a := fun u hu => let ⟨j, a, g, h1, e, h2⟩ := mem u (h3 u hu); ⟨a, e⟩
    have go := q (out.toList.map fun v => (key v, ad v)) h'.objs.size (by rw [List.map_map, ← ek]; exact o1.map key) (by rw [List.map_map, List.pairwise_map]; exact o2) (fun z hz => by
      obtain ⟨v, hv, rfl⟩ := List.mem_map.mp hz
      obtain ⟨j, a, g, h1, rfl, h2⟩ := mem v (h3 v hv)
      show H (ad (.ref a)) = some (.tup ((key (.ref a)).map V.str))
      rw [had, hkey a _ h2]
      exact h2) (I1.hok.fresh (Nat.le_refl _))
    rw [ez] at go
    exact ⟨.ref h'.objs.size, _, I1.laid (t' := tk) (o := .lst (out.toList.map backV)) kF (Nat.le_refl _) ⟨by rw [List.length_map, o1.length_eq, lk, sizeLine_eq]; omega, out.toList, eq2, vals_back hr, by rw [Array.toArray_toList]; exact he2⟩, rfl, go⟩
end
end MR

set_option Elab.async false
set_option linter.all false
set_option maxRecDepth 100000
set_option maxHeartbeats 1000000
/-! MB23: sorted, over data. -/
namespace MR
open PySem L2 PySem.Spec PyProof.Rows
/-! ### sorting by keys -/
def insB {α : Type} (lt : α → α → Bool) (x : α) : List α → List α
  | [] => [x]
  | y :: ys => if lt y x then y :: insB lt x ys else x :: y :: ys
def sortB {α : Type} (lt : α → α → Bool) : List α → List α
  | [] => []
  | x :: xs => insB lt x (sortB lt xs)
theorem insB_perm {α : Type} {lt : α → α → Bool} {x : α} : ∀ l : List α, (insB lt x l).Perm (x :: l)
  | [] => .refl _
  | y :: ys => by
    unfold insB
    split
    · exact ((insB_perm ys).cons y).trans (.swap x y ys)
    · exact .refl _
theorem sortB_perm {α : Type} {lt : α → α → Bool} : ∀ l : List α, (sortB lt l).Perm l
  | [] => .refl _
  | x :: xs => (insB_perm _).trans ((sortB_perm xs).cons x)
theorem sortB_length {α : Type} {lt : α → α → Bool} (l : List α) : (sortB lt l).length = l.length := (sortB_perm l).length_eq
theorem mem_sortB {α : Type} {lt : α → α → Bool} {l : List α} {x : α} : x ∈ sortB lt l ↔ x ∈ l := (sortB_perm l).mem_iff
theorem insB_sorted {α : Type} {lt : α → α → Bool} (tr : ∀ x y z, lt x y = true → lt y z = true → lt x z = true) (as : ∀ x y, lt x y = true → lt y x = false) (tot : ∀ x y z, lt y x = false → lt z y = false → lt z x = false) {x : α} : ∀ {l : List α}, l.Pairwise (fun a b => lt b a = false) → (insB lt x l).Pairwise (fun a b => lt b a = false)
  | [], _ => List.pairwise_singleton _ _
  | y :: ys, h => by
    obtain ⟨h1, h2⟩ := List.pairwise_cons.mp h
    unfold insB
    split
    · rename_i q
      refine List.pairwise_cons.mpr ⟨fun z hz => ?_, insB_sorted tr as tot h2⟩
      rcases List.mem_cons.mp ((insB_perm ys).mem_iff.mp hz) with rfl | hz
      · exact as _ _ q
      · exact h1 z hz
    · rename_i q
      have q' : lt y x = false := by simpa using q
      refine List.pairwise_cons.mpr ⟨fun z hz => ?_, h⟩
      rcases List.mem_cons.mp hz with rfl | hz
      · exact q'
      · exact tot _ _ _ q' (h1 z hz)
theorem sortB_sorted {α : Type} {lt : α → α → Bool} (tr : ∀ x y z, lt x y = true → lt y z = true → lt x z = true) (as : ∀ x y, lt x y = true → lt y x = false) (tot : ∀ x y z, lt y x = false → lt z y = false → lt z x = false) : ∀ l : List α, (sortB lt l).Pairwise (fun a b => lt b a = false)
  | [] => .nil
  | x :: xs => insB_sorted tr as tot (sortB_sorted tr as tot xs)
/-! texts -/
def ltS (x y : Str) : Bool := decide (x.cps.toList < y.cps.toList)
theorem ltS_tr (x y z : Str) (h1 : ltS x y = true) (h2 : ltS y z = true) : ltS x z = true := decide_eq_true (List.lt_trans (of_decide_eq_true h1) (of_decide_eq_true h2))
theorem ltS_as (x y : Str) (h : ltS x y = true) : ltS y x = false := decide_eq_false (List.lt_asymm (of_decide_eq_true h))
theorem ltS_anti {x y : Str} (h1 : ltS x y = false) (h2 : ltS y x = false) : x = y := TX.str_ext (List.le_antisymm (List.not_lt.mp (of_decide_eq_false h2)) (List.not_lt.mp (of_decide_eq_false h1)))
theorem ltS_tot (x y z : Str) (h1 : ltS y x = false) (h2 : ltS z y = false) : ltS z x = false := by
  cases h : ltS z x with
  | false => rfl
  | true =>
    cases h3 : ltS x y with
    | true =>
      have := ltS_tr _ _ _ h h3
      rw [h2] at this
      cases this
    | false =>
      have := ltS_anti h1 h3
      subst this
      rw [h2] at h
      cases h
def sortS (xs : List Str) : List Str := sortB ltS xs
theorem sortS_sorted (xs : List Str) : (sortS xs).Pairwise (fun a b => ltS b a = false) := sortB_sorted ltS_tr ltS_as ltS_tot xs
theorem sortS_uniq {ys xs : List Str} (p : ys.Perm xs) (h : ys.Pairwise fun a b => ltS b a = false) : ys = sortS xs :=
  List.Perm.eq_of_pairwise (le := fun a b => ltS b a = false) (fun a b _ _ h1 h2 => ltS_anti h2 h1) h (sortS_sorted xs) (p.trans (sortB_perm xs).symm)
theorem rising_pw : ∀ {ys : List Str}, sortedS ys = true → ys.Pairwise fun a b => ltS b a = false := by
  have key : ∀ (ys : List Str) (x : Str), risingS x ys = true → (x :: ys).Pairwise fun a b => ltS b a = false := by
    intro ys
    induction ys with
    | nil => intro x _; exact List.pairwise_singleton _ _
    | cons y ys ih =>
      intro x h
      simp only [risingS, Bool.and_eq_true] at h
      have h1 : ltS y x = false := by
        have := h.1
        unfold ltS
        rw [← ltCps_eq]
        simpa using this
      have h2 := ih y h.2
      refine List.pairwise_cons.mpr ⟨fun z hz => ?_, h2⟩
      rcases List.mem_cons.mp hz with rfl | hz
      · exact h1
      · exact ltS_tot _ _ _ h1 ((List.pairwise_cons.mp h2).1 z hz)
  intro ys h
  cases ys with
  | nil => exact .nil
  | cons x r => exact key r x h
/-! lists of texts -/
theorem lexT_anti {k l : List Str} (hl : k.length = l.length) (h1 : TX.lexT k l = false) (h2 : TX.lexT l k = false) : k = l := TX.lexT_tri hl h1 h2
/-- pairs of a list of texts and a thing, by the texts -/
def ltP {α : Type} (x y : List Str × α) : Bool := TX.lexT x.1 y.1
theorem ltP_tr {α : Type} (x y z : List Str × α) (h1 : ltP x y = true) (h2 : ltP y z = true) : ltP x z = true := TX.lexT_trans h1 h2
theorem ltP_as {α : Type} (x y : List Str × α) (h : ltP x y = true) : ltP y x = false := TX.lexT_asym h
/-- among lists of one length -/
theorem sortP_sorted {α : Type} {m : Nat} : ∀ {l : List (List Str × α)}, (∀ x ∈ l, x.1.length = m) → (sortB ltP l).Pairwise (fun a b => ltP b a = false) := by
  intro l hm
  have tot : ∀ x y z : List Str × α, x.1.length = m → y.1.length = m → z.1.length = m → ltP y x = false → ltP z y = false → ltP z x = false := by
    intro x y z hx hy hz h1 h2
    cases h : ltP z x with
    | false => rfl
    | true =>
      cases h3 : ltP x y with
      | true =>
        have := ltP_tr _ _ _ h h3
        rw [h2] at this
        cases this
      | false =>
        have := lexT_anti (hx.trans hy.symm) h3 h1
        unfold ltP at h h2
        rw [this] at h
        rw [h2] at h
        cases h
  have ins : ∀ {x : List Str × α}, x.1.length = m → ∀ {l : List (List Str × α)}, (∀ y ∈ l, y.1.length = m) → l.Pairwise (fun a b => ltP b a = false) → (insB ltP x l).Pairwise (fun a b => ltP b a = false) := by
    intro x hx l
    induction l with
    | nil => intro _ _; exact List.pairwise_singleton _ _
    | cons y ys ih =>
      intro hl h
      obtain ⟨h1, h2⟩ := List.pairwise_cons.mp h
      have hy := hl y List.mem_cons_self
      have hys : ∀ z ∈ ys, z.1.length = m := fun z hz => hl z (List.mem_cons_of_mem _ hz)
      unfold insB
      split
      · rename_i q
        refine List.pairwise_cons.mpr ⟨fun z hz => ?_, ih hys h2⟩
        rcases List.mem_cons.mp ((insB_perm ys).mem_iff.mp hz) with rfl | hz
        · exact ltP_as _ _ q
        · exact h1 z hz
      · rename_i q
        have q' : ltP y x = false := by simpa using q
        refine List.pairwise_cons.mpr ⟨fun z hz => ?_, h⟩
        rcases List.mem_cons.mp hz with rfl | hz
        · exact q'
        · exact tot _ _ _ hx hy (hys z hz) q' (h1 z hz)
  induction l with
  | nil => exact .nil
  | cons x xs ih => exact ins (hm x List.mem_cons_self) (fun y hy => hm y (List.mem_cons_of_mem _ (mem_sortB.mp hy))) (ih fun y hy => hm y (List.mem_cons_of_mem _ hy))
theorem sortP_uniq {α : Type} {m : Nat} {ys xs : List (List Str × α)} (hm : ∀ x ∈ xs, x.1.length = m) (nd : (xs.map (·.1)).Nodup) (p : ys.Perm xs) (h : ys.Pairwise fun a b => ltP b a = false) : ys = sortB ltP xs := by
  have hp := p.trans (sortB_perm (lt := ltP) xs).symm
  refine List.Perm.eq_of_pairwise (le := fun a b => ltP b a = false) (fun a b ha hb h1 h2 => ?_) h (sortP_sorted hm) hp
  have ha' := p.mem_iff.mp ha
  have hb' := mem_sortB.mp hb
  have e := lexT_anti ((hm a ha').trans (hm b hb').symm) h2 h1
  obtain ⟨i, hi, ei⟩ := List.mem_iff_getElem.mp ha'
  obtain ⟨j, hj, ej⟩ := List.mem_iff_getElem.mp hb'
  have : (xs.map (·.1))[i]'(by simpa using hi) = (xs.map (·.1))[j]'(by simpa using hj) := by
    rw [List.getElem_map, List.getElem_map, ei, ej, e]
  have ij : i = j := (List.getElem_inj nd).mp this
  subst ij
  rw [← ei, ← ej]
/-! ### the rule by places -/
section
variable {X : Cx}
theorem cr_sortTz : CallR X (.builtin "sorted") (fun vs H Q => ∃ (a : Addr) (xs : List V) (kd : List (List Str)) (m : Nat), vs = [V.ref a] ∧ SqL X.K H a xs ∧ xs.length = kd.length ∧ xs.length < 64 ∧ 0 < m ∧
    (∀ (i : Nat) (h1 : i < xs.length) (h2 : i < kd.length), ∃ t its, xs[i] = V.ref t ∧ SqT X.K H t its ∧ its.take m = kd[i].map V.str ∧ kd[i].length = m) ∧ kd.Nodup ∧
    ∀ (zs : List (List Str × V)) p, zs.Perm (kd.zip xs) → zs.Pairwise (fun x y => ltP y x = false) → H p = none → Q (.ref p) (upd H p (.lst (zs.map (·.2))))) := by
  intro pins s σ H vs us Q I r h
  obtain ⟨a, xs, kd, m, rfl, hs, hl, h64, hm, hx, nd, q⟩ := h
  have ndx : xs.Nodup := by
    refine List.pairwise_iff_getElem.mpr fun i j hi hj lt e => ?_
    obtain ⟨t, its, e1, e2, e3, e4⟩ := hx i hi (by omega)
    obtain ⟨t', its', f1, f2, f3, f4⟩ := hx j hj (by omega)
    rw [e1, f1] at e
    cases e
    have := I.tuple_inj e2 f2
    subst this
    rw [e3] at f3
    have inj : kd[i]'(by omega) = kd[j]'(by omega) := by
      have := congrArg txts f3
      rwa [txts_map, txts_map] at this
    have ij := (List.getElem_inj nd).mp inj
    omega
  have hk : ∃ key : V → List Str, ∀ (i : Nat) (h1 : i < xs.length) (h2 : i < kd.length), key xs[i] = kd[i] := by
    refine ⟨fun v => if h : ∃ (i : Nat) (h1 : i < xs.length) (h2 : i < kd.length), xs[i] = v then kd[h.choose]'(h.choose_spec.choose_spec.choose) else [], fun i h1 h2 => ?_⟩
    have h : ∃ (j : Nat) (h1 : j < xs.length) (h2 : j < kd.length), xs[j] = xs[i] := ⟨i, h1, h2, rfl⟩
    show (if h : ∃ (j : Nat) (h1 : j < xs.length) (h2 : j < kd.length), xs[j] = xs[i] then kd[h.choose]'(h.choose_spec.choose_spec.choose) else []) = _
    rw [dif_pos h]
    have e := h.choose_spec.choose_spec.choose_spec
    have ij := (List.getElem_inj ndx).mp e
    congr 1
  obtain ⟨key, hkey⟩ := hk
  have ez : xs.map (fun v => (key v, v)) = kd.zip xs := by
    refine List.ext_getElem (by simp [hl]) fun i h1 h2 => ?_
    have g1 : i < xs.length := by simpa using h1
    simp [hkey i g1 (by omega)]
  refine cr_sortTx pins s σ H _ us Q I r ⟨a, xs, key, m, rfl, hs, h64, hm, fun x hx' => ?_, fun x hx' y hy' e => ?_, fun ys p hp hs2 hn => ?_⟩
  · obtain ⟨i, hi, rfl⟩ := List.mem_iff_getElem.mp hx'
    obtain ⟨t, its, e1, e2, e3, e4⟩ := hx i hi (by omega)
    rw [hkey i hi (by omega)]
    exact ⟨t, its, e1, e2, e3, e4⟩
  · obtain ⟨i, hi, rfl⟩ := List.mem_iff_getElem.mp hx'
    obtain ⟨j, hj, rfl⟩ := List.mem_iff_getElem.mp hy'
    rw [hkey i hi (by omega), hkey j hj (by omega)] at e
    have ij := (List.getElem_inj nd).mp e
    subst ij
    rfl
  · have := q (ys.map fun v => (key v, v)) p (by rw [← ez]; exact hp.map _) (by rw [List.pairwise_map]; exact hs2) hn
    rw [List.map_map] at this
    have e2 : ys.map ((fun z : List Str × V => z.2) ∘ fun v => (key v, v)) = ys := by simp [Function.comp_def]
    rw [e2] at this
    exact this
end
/-! ### over data -/
def strsOf : List D → Option (List Str)
  | [] => some []
  | .str s :: ds => (strsOf ds).map (s :: ·)
  | _ :: _ => none
theorem strsOf_map : ∀ (xs : List Str), strsOf (xs.map D.str) = some xs
  | [] => rfl
  | x :: xs => by simp [strsOf, strsOf_map xs]
/-- the first text of a tuple -/
def first1 : D → Option (List Str)
  | .tup (.str s :: _) => some [s]
  | _ => none
def keyed (f : D → Option (List Str)) : List D → Option (List (List Str × D))
  | [] => some []
  | d :: ds => match f d, keyed f ds with
    | some k, some r => some ((k, d) :: r)
    | _, _ => none
def fSortS : D → Option D
  | .lst ds => (strsOf ds).bind fun xs => if xs.length < 64 then some (.lst ((sortS xs).map .str)) else none
  | _ => none
def fSort1 : D → Option D
  | .lst ds => (keyed first1 ds).bind fun r => if r.length < 64 ∧ (r.map (·.1)).Nodup then some (.lst ((sortB ltP r).map (·.2))) else none
  | _ => none
theorem zip_fst' {α β : Type} {ks : List α} {ds : List β} (h : ks.length = ds.length) : (ks.zip ds).map (·.1) = ks := by
  rw [List.map_fst_zip (by omega)]
def pairK : List Key → Option (List Str)
  | [.inr a, .inr b] => some [a, b]
  | _ => none
def pairsK : List (List Key) → Option (List (List Str))
  | [] => some []
  | k :: ks => match pairK k, pairsK ks with
    | some x, some xs => some (x :: xs)
    | _, _ => none
def fSortT : D → Option D
  | .dT kvs => (pairsK (kvs.map (·.1))).bind fun r => if r.length < 64 ∧ r.Nodup then some (.lst ((sortB TX.lexT r).map fun k => .tup (k.map .str))) else none
  | _ => none
section
variable {K : PySem.W.Frag} {G : Cl} {E : XS} {C : SC} {μ μ' μ1 μa : List Mode} {r : Mode} {X : Cx} {F : Fo} {S S' H H' : Hp} {σ : L2.St} {ρ : List D}
/-- a tuple that stands may be known to anybody -/
theorem EnvOk.see {b : Addr} {vs : List V} (h : EnvOk K G F S H μ σ ρ) (hb : H b = some (.tup vs)) : ∃ S', Ex S S' ∧ EnvOk K G F S' H μ σ ρ ∧ S' b = some (.tup vs) := by
  cases q : S b with
  | some o =>
    have := h.sh _ _ q
    rw [hb] at this
    cases this
    exact ⟨S, Evl.Ex.refl S, h, q⟩
  | none =>
    have e1 : Ex S (upd S b (.tup vs)) := Evl.Ex.new q
    refine ⟨_, e1, h.grow e1 (fun a o z => ?_) (fun a o z _ => z) fun a o z nt zs => ?_, upd_same⟩
    · by_cases e : a = b
      · subst e
        rw [upd_same] at z
        cases z
        exact hb
      · rw [upd_ne e] at z
        exact h.sh _ _ z
    · have : a ≠ b := fun e => by
        subst e
        rw [hb] at z
        cases z
        cases nt
      rw [upd_ne this]
      exact zs
theorem EnvOk.seeAll : ∀ (zs : List (List Str × Addr)) {S : Hp}, EnvOk K G F S H μ σ ρ → (∀ z ∈ zs, H z.2 = some (.tup (z.1.map V.str))) → ∃ S', Ex S S' ∧ EnvOk K G F S' H μ σ ρ ∧ DatL K G S' (zs.map fun z => V.ref z.2) (zs.map fun z => .tup (z.1.map .str))
  | [], S, h, _ => ⟨S, Evl.Ex.refl S, h, .nil⟩
  | z :: zs, S, h, k => by
    obtain ⟨S1, e1, h1, s1⟩ := h.see (k z List.mem_cons_self)
    obtain ⟨S2, e2, h2, q⟩ := EnvOk.seeAll zs h1 fun y hy => k y (List.mem_cons_of_mem _ hy)
    refine ⟨S2, e1.trans e2, h2, .cons (.tup (Or.inl (Or.inl (e2 _ _ s1))) ?_) q⟩
    have : ∀ xs : List Str, DatL K G S2 (xs.map V.str) (xs.map .str) := fun xs => by
      induction xs with
      | nil => exact .nil
      | cons x xs ih => exact .cons (.str x) ih
    exact this z.1
theorem datL_strs : ∀ {vs : List V} {ds : List D} {xs : List Str}, DatL K G S vs ds → strsOf ds = some xs → vs = xs.map V.str
  | _, _, _, .nil, e => by cases e; rfl
  | _, _, xs, .cons (v := v) (d := d) (ds := ds) h t, e => by
    cases d with
    | str s =>
      cases h
      simp only [strsOf] at e
      cases q : strsOf ds with
      | none => rw [q] at e; cases e
      | some ys =>
        rw [q] at e
        cases e
        rw [datL_strs t q]
        rfl
    | _ => simp [strsOf] at e
theorem strs_datL : ∀ xs : List Str, DatL K G S (xs.map V.str) (xs.map D.str)
  | [] => .nil
  | x :: xs => .cons (.str x) (strs_datL xs)
theorem sortS_at (hr : r = .d ∨ r = .o) {v : V} {d z : D} {Q : VK} (h : EnvOk K G F S H μ σ ρ) (q1 : Dat K G S v d) (e : fSortS d = some z) (k : RVal K G μ F S σ ρ r z Q) : rSortedS K [v] H Q := by
  cases d with
  | lst ds =>
    have e' : ((strsOf ds).bind fun xs => if xs.length < 64 then some (D.lst ((sortS xs).map .str)) else none) = some z := e
    cases q1 with
    | @lst _ xs _ a1 a2 =>
      cases q2 : strsOf ds with
      | none => rw [q2] at e'; cases e'
      | some ys =>
        rw [q2] at e'
        simp only [Option.bind_some] at e'
        split at e'
        · rename_i hl
          cases e'
          have ev := datL_strs a2 q2
          subst ev
          refine ⟨_, ys, rfl, .inl (.inl (h.sh _ _ a1)), hl, fun ws p hp hs hn => ?_⟩
          rw [sortS_uniq hp (rising_pw hs)]
          exact RVal.new hr k h (strs_datL _) hn
        · cases e'
  | _ => cases e
theorem keyed_ok {f : D → Option (List Str)} : ∀ {ds : List D} {r : List (List Str × D)}, keyed f ds = some r → r.map (·.2) = ds ∧ ∀ (i : Nat) (h : i < r.length), f (r[i].2) = some r[i].1
  | [], _, e => by cases e; exact ⟨rfl, fun i h => absurd h (by simp)⟩
  | d :: ds, r, e => by
    simp only [keyed] at e
    cases q1 : f d with
    | none => rw [q1] at e; cases e
    | some k =>
      cases q2 : keyed f ds with
      | none => rw [q1, q2] at e; cases e
      | some rs =>
        rw [q1, q2] at e
        cases e
        obtain ⟨h1, h2⟩ := keyed_ok q2
        refine ⟨by simp [h1], fun i h => ?_⟩
        cases i with
        | zero => exact q1
        | succ i => exact h2 i (by simpa using h)
theorem first1_ok {d : D} {k : List Str} {v : V} (h : Dat K G S v d) (e : first1 d = some k) : k.length = 1 ∧ ∃ t its, v = .ref t ∧ SqT K S t its ∧ its.take 1 = k.map V.str := by
  cases d with
  | tup ds =>
    cases ds with
    | nil => cases e
    | cons d0 ds =>
      cases d0 with
      | str s =>
        cases e
        cases h with
        | tup a1 a2 =>
          cases a2 with
          | cons b1 b2 =>
            cases b1
            exact ⟨rfl, _, _, rfl, a1, rfl⟩
      | _ => cases e
  | _ => cases e
abbrev rSort1 (K : PySem.W.Frag) : List V → Hp → VK → Prop := fun vs H Q => ∃ (a : Addr) (xs : List V) (kd : List (List Str)) (m : Nat), vs = [V.ref a] ∧ SqL K H a xs ∧ xs.length = kd.length ∧ xs.length < 64 ∧ 0 < m ∧
    (∀ (i : Nat) (h1 : i < xs.length) (h2 : i < kd.length), ∃ t its, xs[i] = V.ref t ∧ SqT K H t its ∧ its.take m = kd[i].map V.str ∧ kd[i].length = m) ∧ kd.Nodup ∧
    ∀ (zs : List (List Str × V)) p, zs.Perm (kd.zip xs) → zs.Pairwise (fun x y => ltP y x = false) → H p = none → Q (.ref p) (upd H p (.lst (zs.map (·.2))))
theorem sort1_at (hr : r = .d ∨ r = .o) {v : V} {d z : D} {Q : VK} (h : EnvOk K G F S H μ σ ρ) (q1 : Dat K G S v d) (e : fSort1 d = some z) (k : RVal K G μ F S σ ρ r z Q) : rSort1 K [v] H Q := by
  cases d with
  | lst ds =>
    have e' : ((keyed first1 ds).bind fun r => if r.length < 64 ∧ (r.map (·.1)).Nodup then some (D.lst ((sortB ltP r).map (·.2))) else none) = some z := e
    cases q1 with
    | @lst _ xs _ a1 a2 =>
      cases q2 : keyed first1 ds with
      | none => rw [q2] at e'; cases e'
      | some rs =>
        rw [q2] at e'
        simp only [Option.bind_some] at e'
        split at e'
        · rename_i hc
          cases e'
          obtain ⟨h1, h2⟩ := keyed_ok q2
          subst h1
          have ln : xs.length = rs.length := by rw [a2.length, List.length_map]
          have at_ : ∀ (i : Nat) (g1 : i < xs.length) (g2 : i < rs.length), Dat K G S xs[i] rs[i].2 := fun i g1 g2 => by
            obtain ⟨v, e1, e2⟩ := a2.get (i := i) (d := rs[i].2) (by simp [g2])
            rw [List.getElem?_eq_getElem g1] at e1
            cases e1
            exact e2
          have len1 : ∀ x ∈ rs, x.1.length = 1 := fun x hx => by
            obtain ⟨i, g, rfl⟩ := List.mem_iff_getElem.mp hx
            exact (first1_ok (at_ i (by omega) g) (h2 i g)).1
          refine ⟨_, xs, rs.map (·.1), 1, rfl, .inl (.inl (h.sh _ _ a1)), by simpa using ln, by omega, by decide, fun i g1 g2 => ?_, hc.2, fun zs p hp hs hn => ?_⟩
          · have g3 : i < rs.length := by omega
            obtain ⟨l1, t, its, e1, e2, e3⟩ := first1_ok (at_ i g1 g3) (h2 i g3)
            rw [List.getElem_map]
            exact ⟨t, its, e1, Evl.ex_t h.sh e2, e3, l1⟩
          · have eW : ((rs.map (·.1)).zip (xs.zip (rs.map (·.2)))).map (fun w => (w.1, w.2.1)) = (rs.map (·.1)).zip xs := by
              refine List.ext_getElem (by simp [ln]) fun i g1 g2 => ?_
              simp
            obtain ⟨ws, pw, ew⟩ := perm_lift (fun w : List Str × V × D => (w.1, w.2.1)) hp _ eW
            have eR : ((rs.map (·.1)).zip (xs.zip (rs.map (·.2)))).map (fun w => (w.1, w.2.2)) = rs := by
              refine List.ext_getElem (by simp [ln]) fun i g1 g2 => ?_
              simp
            have pr : (ws.map fun w => (w.1, w.2.2)).Perm rs := by
              have := pw.map (fun w : List Str × V × D => (w.1, w.2.2))
              rwa [eR] at this
            have so : (ws.map fun w => (w.1, w.2.2)).Pairwise (fun x y => ltP y x = false) := by
              rw [← ew, List.pairwise_map] at hs
              rw [List.pairwise_map]
              exact hs
            have es := sortP_uniq len1 hc.2 pr so
            have el : zs.map (·.2) = ws.map fun w => w.2.1 := by rw [← ew, List.map_map]; rfl
            have ed : (sortB ltP rs).map (·.2) = ws.map fun w => w.2.2 := by rw [← es, List.map_map]; rfl
            rw [el]
            rw [ed] at k
            refine RVal.new hr k h ?_ hn
            have mem : ∀ w ∈ ws, Dat K G S w.2.1 w.2.2 := fun w hw => by
              have := pw.mem_iff.mp hw
              obtain ⟨i, g, e⟩ := List.mem_iff_getElem.mp this
              have g1 : i < xs.length := by have := g; simp at this; omega
              have g2 : i < rs.length := by omega
              rw [← e]
              simp only [List.getElem_zip, List.getElem_map]
              exact at_ i g1 g2
            clear pw ew pr so es el ed k
            induction ws with
            | nil => exact .nil
            | cons w ws ih => exact .cons (mem w List.mem_cons_self) (ih fun y hy => mem y (List.mem_cons_of_mem _ hy))
        · cases e'
  | _ => cases e
theorem pairK_ok {k : List Key} {x : List Str} (e : pairK k = some x) : k = x.map Sum.inr ∧ x.length = 2 := by
  match k, e with
  | [.inr a, .inr b], e => cases e; exact ⟨rfl, rfl⟩
theorem pairsK_ok : ∀ {ks : List (List Key)} {r : List (List Str)}, pairsK ks = some r → ks = r.map (fun k => k.map Sum.inr) ∧ ∀ k ∈ r, k.length = 2
  | [], _, e => by cases e; exact ⟨rfl, fun k h => by cases h⟩
  | k :: ks, r, e => by
    simp only [pairsK] at e
    cases q1 : pairK k with
    | none => rw [q1] at e; cases e
    | some x =>
      cases q2 : pairsK ks with
      | none => rw [q1, q2] at e; cases e
      | some xs =>
        rw [q1, q2] at e
        cases e
        obtain ⟨h1, h2⟩ := pairsK_ok q2
        obtain ⟨h3, h4⟩ := pairK_ok q1
        refine ⟨by rw [h1, h3]; rfl, fun k hk => ?_⟩
        rcases List.mem_cons.mp hk with rfl | hk
        · exact h4
        · exact h2 k hk
/-- sorted(x): texts; tuples by their first text; the keys of a dict, pairs of texts -/
def fSorted : List D → Option D
  | [.dT kvs] => fSortT (.dT kvs)
  | [d] => match fSortS d with
    | some z => some z
    | none => fSort1 d
  | _ => none
theorem sortT_uniq {m : Nat} {ys xs : List (List Str)} (hm : ∀ x ∈ xs, x.length = m) (p : ys.Perm xs) (h : ys.Pairwise fun a b => TX.lexT b a = false) : ys = sortB TX.lexT xs := by
  have e : ∀ l : List (List Str), (sortB (ltP (α := Unit)) (l.map fun k => (k, ()))).map (·.1) = sortB TX.lexT l := by
    have ins : ∀ (x : List Str) (l : List (List Str × Unit)), (insB ltP (x, ()) l).map (·.1) = insB TX.lexT x (l.map (·.1)) := by
      intro x l
      induction l with
      | nil => rfl
      | cons y ys ih =>
        show (if ltP y (x, ()) = true then y :: insB ltP (x, ()) ys else (x, ()) :: y :: ys).map (·.1) = if TX.lexT y.1 x = true then y.1 :: insB TX.lexT x (ys.map (·.1)) else x :: y.1 :: ys.map (·.1)
        by_cases q : TX.lexT y.1 x = true
        · rw [if_pos q, if_pos (show ltP y (x, ()) = true from q), List.map_cons, ih]
        · rw [if_neg q, if_neg (show ¬ ltP y (x, ()) = true from q)]
          rfl
    intro l
    induction l with
    | nil => rfl
    | cons x xs ih =>
      show (insB ltP (x, ()) (sortB ltP (xs.map fun k => (k, ())))).map (·.1) = insB TX.lexT x (sortB TX.lexT xs)
      rw [ins, ih]
  have s2 : (sortB TX.lexT xs).Pairwise fun a b => TX.lexT b a = false := by
    rw [← e xs, List.pairwise_map]
    exact sortP_sorted (m := m) fun x hx => by obtain ⟨k, hk, rfl⟩ := List.mem_map.mp hx; exact hm k hk
  refine List.Perm.eq_of_pairwise (le := fun a b => TX.lexT b a = false) (fun a b ha hb h1 h2 => ?_) h s2 (p.trans (sortB_perm xs).symm)
  exact lexT_anti ((hm a (p.mem_iff.mp ha)).trans (hm b (mem_sortB.mp hb)).symm) h2 h1
theorem je_sorted {e : Expr} {a : MA} {p pos : Pos} (hm : X.mg "sorted" = none) (ha : JA X G E μ [e] a) (hc : X.calm = true := by rfl)
    (hg : Gl X "sorted" := by rfl) (he : starEach [e] X.env = (false, eval e X.env) :: starEach [] X.env := by rfl) (hpl : (backTo pos (starEach [] X.env)).any (·.1) = false := by rfl) (hr : r = .d ∨ r = .o := by first | exact .inl rfl | exact .inr rfl) :
    JE X G E r μ (.Call (.Name "sorted" p) [e] [] pos) (mCB fSorted a) := by
  obtain ⟨t1, p1, s1⟩ := ha.ex
  refine ⟨_, pe_callB (callR_or cr_sortedS (callR_or cr_sortTz (cr_sortTd hc))) hg hm (by decide +kernel) p1 (by decide) (by decide) he hpl, se_cb ?_ s1⟩
  intro F S H μ σ ρ vs ds z h q e Q k
  cases q with
  | nil => cases e
  | @cons v d vs ds q1 q2 =>
    cases q2 with
    | cons _ _ => cases d <;> cases e
    | nil =>
      by_cases hT : ∃ kvs, d = .dT kvs
      · obtain ⟨kvs, eD⟩ := hT
        refine .inr (.inr ?_)
        cases q1 with
        | @dT b ks ws ds0 a1 a2 a3 =>
          have e' : ((pairsK ((ks.zip ds0).map (·.1))).bind fun r => if r.length < 64 ∧ r.Nodup then some (D.lst ((sortB TX.lexT r).map fun k => .tup (k.map .str))) else none) = some z := e
          rw [zip_fst' (a2.trans a3.length)] at e'
          cases q2 : pairsK ks with
          | none => rw [q2] at e'; cases e'
          | some r0 =>
            rw [q2] at e'
            simp only [Option.bind_some] at e'
            split at e'
            · rename_i hcc
              cases e'
              obtain ⟨h1, h2⟩ := pairsK_ok q2
              refine ⟨b, _, r0, 2, rfl, .inl (h.sh _ _ a1), by rw [zip_fst' a2, h1], hcc.1, by decide, h2, hcc.2, fun zs p hp hs hz hn => ?_⟩
              have es := sortT_uniq h2 hp hs
              obtain ⟨S2, e2, h2', dl⟩ := h.seeAll zs hz
              have ed : (sortB TX.lexT r0).map (fun k => D.tup (k.map .str)) = zs.map fun z => D.tup (z.1.map .str) := by rw [← es, List.map_map]; rfl
              rw [ed] at k
              exact RVal.new (S := S2) hr (fun v S' H' e3 h3 => k v S' H' (e2.trans e3) h3) h2' dl hn
            · cases e'
        | _ => cases eD
      · have e' : (match fSortS d with | some z => some z | none => fSort1 d) = some z := by
          cases d with
          | dT kvs => exact absurd ⟨_, rfl⟩ hT
          | _ => exact e
        cases q2 : fSortS d with
        | some z' =>
          rw [q2] at e'
          cases e'
          exact .inl (sortS_at hr h q1 q2 k)
        | none =>
          rw [q2] at e'
          exact .inr (.inl (sort1_at hr h q1 e' k))
end
end MR

set_option Elab.async false
set_option linter.all false
set_option maxRecDepth 100000
set_option maxHeartbeats 1000000
/-! MB24: freezing what is owned by a shape; what is never reached; not in. -/
namespace MR
open PySem L2 PySem.Spec PyProof.Rows
section
variable {K : PySem.W.Frag} {G : Cl} {E : XS} {C : SC} {μ μ' μ1 μa : List Mode} {r : Mode} {X : Cx} {F : Fo} {S S' H H' : Hp} {σ : L2.St} {ρ : List D}
theorem je_frzM {e : Expr} {m : ME} (h : JE X G E r μ e m) (ho : isOwn r = true := by rfl) : JE X G E .d μ e m := by
  obtain ⟨t1, p1, s1⟩ := h.ex
  refine ⟨t1, p1, fun F S H σ ρ h Q k => s1 F S H σ ρ h _ ?_⟩
  cases q : m ρ with
  | ok d ρ1 =>
    rw [q] at k
    intro v S1 H1 e1 h1
    obtain ⟨S2, e2, h2⟩ := h1.frzM (i := 0) (m := r) rfl ho
    exact k v S2 H1 (e1.trans e2) h2
  | exc e1 ρ1 => rw [q] at k; exact k
  | bad => rw [q] at k; exact k
/-- what is never reached -/
def mBadS : MS := fun _ => .bad
theorem js_bad {st : Stmt} : JS X G C μ μ' st mBadS := ⟨fun _ _ _ => False, ⟨fun _ _ _ _ _ _ h => h.elim⟩, fun _ _ _ _ _ _ _ k => k⟩
theorem jss_bad {sts : List Stmt} : JSs X G C μ μ' sts mBadS := ⟨fun _ _ _ => False, ⟨fun _ _ _ _ _ _ h => h.elim⟩, fun _ _ _ _ _ _ _ k => k⟩
def mBadE : ME := fun _ => .bad
theorem je_bad {e : Expr} : JE X G E r μ e mBadE := ⟨fun _ _ _ => False, ⟨fun _ _ _ _ _ _ h => h.elim⟩, fun _ _ _ _ _ _ _ k => k⟩
/-- x not in place -/
def mPNotInL (b : ME) (p : Pl) : List D → RR Bool := fun ρ => (b ρ).bind fun k ρ1 => match p.rd ρ1 ρ1 with
  | some (.lst ds) => RR.of ((fIn k (.lst ds)).map (!·)) (p.re ρ1 ρ1)
  | _ => .bad
theorem jt_pNotInL {e b : Expr} {p : Pl} {a : ME} {pos : Pos} (hb : JE X G E .d μ b a) (P : PlE X G μ μa shL e p) (hm : behindInMarks .NotIn e = false := by rfl) : JT X G E μ (.Compare b [.NotIn] [e] pos) (mPNotInL a p) := by
  obtain ⟨t2, p2, s2⟩ := hb.ex
  obtain ⟨t, pe, go⟩ := P.ex
  refine ⟨_, pt_cmpR op_notIn_seq p2 pe hm, fun F S H σ ρ h Q k => s2 F S H σ ρ h _ ?_⟩
  unfold mPNotInL at k
  cases q2 : a ρ with
  | ok kd ρ1 =>
    rw [q2, bind_ok] at k
    intro w S1 H1 e1 h1
    have k1 := TOk.mono e1 k
    split at k1
    · rename_i ds q4
      obtain ⟨q, F', read, fl, h', re⟩ := go F S1 H1 σ ρ1 _ h1.tail q4
      refine read _ ?_
      obtain ⟨r1, _⟩ := re S1 H1 ρ1 (Evl.Ex.refl S1) h'
      obtain ⟨vs, ds', ec, a1, a2⟩ := fl.lst
      cases ec
      have k2 : TOk X.K G E μ F S1 σ Q (RR.of ((if flatD kd = true ∧ ds.all flatD = true then some (ds.any fun y => eqF y kd) else none).map (!·)) (p.re ρ1 ρ1)) := by
        have : fIn kd (.lst ds) = (if flatD kd = true ∧ ds.all flatD = true then some (ds.any fun y => eqF y kd) else none) := by cases kd <;> rfl
        rw [← this]; exact k1
      split at k2
      · rename_i hc
        refine ⟨q, vs, rfl, .inl (.inl (.inl a1)), flat_of h1.head hc.1, flats_of a2 hc.2, !(ds.any fun y => eqF y kd), ?_, k2 S1 H1 (Evl.Ex.refl S1) r1⟩
        rw [if_pos rfl, inV_of h1.head hc.1 a2 hc.2]
      · exact k2.elim
    · exact k1.elim
  | exc e ρ1 => rw [q2] at k; exact k
  | bad => rw [q2] at k; exact k
/-- k not in d, d data -/
def mDNotIn (b a : ME) : List D → RR Bool := fun ρ => (b ρ).bind fun k ρ1 => (a ρ1).bind fun c ρ2 => RR.of ((fDIn c k).map (!·)) ρ2
theorem jt_dnotin {e k : Expr} {a b : ME} {pos : Pos} (hu : X.A.units + 64 < cLine) (hk : JK X G E μ k b) (he : JE X G E .d μ e a) (hm : behindInMarks .NotIn e = false := by rfl) : JT X G E μ (.Compare k [.NotIn] [e] pos) (mDNotIn b a) := by
  obtain ⟨t1, p1, s1⟩ := he.ex
  obtain ⟨t2, p2, s2⟩ := hk.ex
  refine ⟨_, pt_cmp (pc_dnotin (Nat.lt_of_le_of_lt (by omega) hu) p2 p1) hm, fun F S H σ ρ h Q k => s2 F S H σ ρ h _ ?_⟩
  unfold mDNotIn at k
  cases q2 : b ρ with
  | ok kd ρ1 =>
    rw [q2, bind_ok] at k
    intro w S1 H1 e1 h1 dk kv
    have k1 := TOk.mono e1 k
    refine s1 F S1 H1 σ ρ1 h1 _ ?_
    cases q1 : a ρ1 with
    | ok c ρ2 =>
      rw [q1, bind_ok] at k1
      intro v S2 H2 e2 h2
      have k2 := TOk.mono e2 k1
      unfold fDIn at k2
      cases q3 : fDGet c kd with
      | none => rw [q3] at k2; exact k2.elim
      | some o =>
        rw [q3] at k2
        obtain ⟨x, rfl, da⟩ := h2.head.dict h2.sh (fDGet_dict q3)
        obtain ⟨ov, g1, g2⟩ := dget_ok h2.sh da (dk.mono e2) (kv.mono e2) q3
        refine ⟨x, ov, rfl, g1, !ov.isSome, rfl, ?_⟩
        have : ov.isSome = o.isSome := by rcases g2 with ⟨rfl, rfl⟩ | ⟨v', d', rfl, rfl, g3⟩ <;> rfl
        rw [this]
        exact k2 S2 H2 (Evl.Ex.refl S2) h2.tail
    | exc e ρ2 => rw [q1] at k1; exact k1
    | bad => rw [q1] at k1; exact k1
  | exc e ρ1 => rw [q2] at k; exact k
  | bad => rw [q2] at k; exact k
end
end MR

set_option Elab.async false
set_option linter.all false
set_option maxRecDepth 100000
set_option maxHeartbeats 1000000
/-! MB25: the signs of a text, one by one. -/
namespace MR
open PySem L2 PySem.Spec PyProof.Rows
section
variable {K : PySem.W.Frag} {G : Cl} {E : XS} {C : SC} {μ : List Mode} {X : Cx} {F : Fo} {S : Hp}
def signsOf (x : Str) : List D := x.cps.toList.map fun c => D.str ⟨#[c]⟩
def mItS (a : ME) : MA := fun ρ => (a ρ).bind fun d ρ1 => RR.of (match d with | .str x => some (signsOf x) | _ => none) ρ1
theorem it_str {x : Str} : ItOk K G F S (Its x) (signsOf x) := by
  have w := walk_str (z := x)
  have l : (signsOf x).length = x.cps.size := by simp [signsOf]
  refine ⟨fun i H hi e _ => w.goes i H (by rw [← l]; exact hi) trivial, fun H e _ => by rw [l]; exact w.stops H trivial, fun i H v H' d hd e _ y => .inl ?_⟩
  have hi : i < x.cps.size := by rw [← l]; exact (List.getElem?_eq_some_iff.mp hd).1
  obtain ⟨y1, c, y2, y3⟩ := w.yields i H v H' hi trivial y
  refine ⟨y1, ?_⟩
  have : (signsOf x)[i]? = some (D.str ⟨#[c]⟩) := by simp [signsOf, y2]
  rw [this] at hd
  cases hd
  rw [y3]
  exact .str _
theorem ji_str {tg e : Expr} {a : ME} (he : JE X G E .d μ e a) : JI X G E μ tg e (mItS a) := by
  obtain ⟨t1, p1, s1⟩ := he.ex
  refine ⟨_, pi_str p1, fun F S H σ ρ h R k => s1 F S H σ ρ h _ ?_⟩
  unfold mItS at k
  cases q : a ρ with
  | ok d ρ1 =>
    rw [q, bind_ok] at k
    intro v S1 H1 e1 h1
    have hd := h1.head
    cases hd with
    | str x => exact ⟨_, rfl, k _ S1 H1 e1 h1.tail it_str⟩
    | _ => exact k.elim
  | exc e1 ρ1 => rw [q] at k; exact k
  | bad => rw [q] at k; exact k
end
end MR

set_option Elab.async false
set_option linter.all false
set_option maxRecDepth 100000
set_option maxHeartbeats 1000000
/-! MB26: the law's own walk with the size of the script's numbers told. -/
namespace MR
open PySem L2 PySem.Spec PyProof.Rows
def Fo.nil0 : Fo := ⟨fun _ => none, fun _ => 0, fun _ _ h => nomatch h⟩
theorem Fo.nil0_no {a : Addr} {o : HO} {p : Prop} (z : Fo.nil0 a = some o) : p := by
  have z2 : (none : Option HO) = some o := z
  cases z2
def bitsMost : Nat := 1048576
theorem bits_lt {z : Int} (h : Builtin.Int.intBits z ≤ 1048576) : z.natAbs < 2 ^ bitsMost := by
  unfold Builtin.Int.intBits at h
  have h2 : z.natAbs < 2 ^ (z.natAbs.log2 + 1) := Nat.lt_log2_self
  split at h
  · rename_i q
    have : z = 0 := by simpa using q
    subst this
    exact Nat.two_pow_pos _
  · exact Nat.lt_of_lt_of_le h2 (Nat.pow_le_pow_right (by decide) h)
section
theorem walk_ofGB {l : PySem.W.OpenLaw} {n : Nat} {q : Program} {loose : List Str} {XP : (Str → Option Value) → Heap → Prop} {YP : World → Heap → Prop} {d : DefRec} {Kp : Params → PySem.W.Frag} {sp : World → Sp} {x : Str}
    (hn : l.most = some n) (hn2 : n ≤ sizeLine) (hdf : d.params.defaults = []) (hY : ∀ (w : World) (h : Heap), YP w h → (Kp w.params).In h)
    (F : ∀ (w : World) (mg : Str → Option Value) (fa : Addr) (h : Heap), (Kp w.params).In h → h.Ns mainGlobals mg → mg d.name = some (.ref fa) →
      ∃ fd : FuncData, (∀ (s : Shared) (u : Value), BindsTo s fd ⟨[u], []⟩ [(x, u)]) ∧ ∀ base : Heap, (Kp w.params).In base → base.Ns mainGlobals mg → FnG l.prog w (Kp w.params) mg base fa fd [x] (sp w))
    (hsp : ∀ (w : World) (H : Hp) (a : Addr) (ns : List Int), ns.length ≤ n → (∀ z ∈ ns, z.natAbs < 2 ^ bitsMost) → Only H → SqL (Kp w.params) H a (ns.map V.int) → sp w [.ref a] H (fun v _ => v = .bl true) fun _ _ _ => False) :
    PySem.W.WalkO q loose XP YP l.row.toRowW d [] (fun f vs => PySem.call f vs) := by
  refine Att.attach_callB hn hdf fun w s₀ s₁ mg mb fa o pm cd doc a vs ns Gr Y _ _ _ hmg hobj hints hlen hbits hg => ?_
  have hbt : ∀ z ∈ ns, z.natAbs < 2 ^ bitsMost := fun z hz => bits_lt (hbits z hz)
  have inK := hY w _ Y
  obtain ⟨fd, hb, hF⟩ := F w mg fa _ inK Gr.T.g hmg
  have rv := vals_ints hints
  have ln : vs.length = ns.length := hints.length
  have sz : ns.length ≤ sizeLine := Nat.le_trans hlen hn2
  cases hk : (Kp w.params).lookup a with
  | some ob =>
    have q := inK a ob hk
    rw [hobj] at q
    injection q with q
    subst q
    refine law_at (H := fun _ => none) inK Gr.T.g Gr.T.b Gr.T.builtins Gr.T.nolimit hg hobj hF hb (hsp w _ a ns hlen hbt (fun _ => Or.inl rfl) (Or.inr ⟨_, vs.toArray, _, hk, rfl, rfl, rfl, by rw [List.size_toArray, ln]; exact sz, by simpa using rv⟩)) (fun _ => Or.inl rfl) (fun c u z => ?_) (fun c z => absurd rfl z) fun z => absurd rfl z
    cases (show (none : Option HO) = some u from z)
  | none =>
    let Hs : Hp := fun c => if c = a then some (.frz { cls := .type "list", data := .seq vs.toArray } (.lst (ns.map V.int))) else none
    have h1 : Hs a = some (.frz { cls := .type "list", data := .seq vs.toArray } (.lst (ns.map V.int))) := if_pos rfl
    have hO : Only Hs := fun c => by
      by_cases z : c = a
      · exact Or.inr ⟨_, _, if_pos z⟩
      · exact Or.inl (if_neg z)
    refine law_at (H := Hs) inK Gr.T.g Gr.T.b Gr.T.builtins Gr.T.nolimit hg hobj hF hb (hsp w Hs a ns hlen hbt hO (Or.inl (Or.inr ⟨_, h1⟩))) hO (fun c u z => ?_) (fun c z => ?_) fun _ => hk
    · by_cases zc : c = a
      · subst zc
        rw [h1] at z
        cases z
        exact ⟨hobj, by rw [List.length_map]; exact sz, vs, _, rv, hobj⟩
      · have z2 : Hs c = none := if_neg zc
        rw [z2] at z
        cases z
    · by_cases zc : c = a
      · exact zc
      · exact absurd (if_neg zc) z
end
end MR

set_option Elab.async false
set_option linter.all false
set_option maxRecDepth 100000
set_option maxHeartbeats 1000000
/-! MB27: a list's method at what an expression has just made. -/
namespace MR
open PySem L2 PySem.Spec PyProof.Rows
section
variable {K : PySem.W.Frag} {G : Cl} {E : XS} {C : SC} {μ μ' μ1 μa : List Mode} {r : Mode} {X : Cx} {F : Fo} {S S' H H' : Hp} {σ : L2.St} {ρ : List D} {d : D}
theorem EnvOk.pushX {s : Option V} (h : EnvOk K G F S H μ σ ρ) : EnvOk K G F S H (.x :: μ) (s :: σ) (d :: ρ) := by
  obtain ⟨sh, fk, ls, lr, fp, ⟨f1, f2, f3⟩, f4, sl⟩ := h
  refine ⟨sh, fk, by simpa using ls, by simpa using lr, fun i => match i with | 0 => [] | i + 1 => fp i, ⟨?_, ?_, ?_⟩, ?_, ?_⟩
  · intro i a ha
    cases i with
    | zero => cases ha
    | succ i => exact f1 i a ha
  · intro i j a ha hb
    cases i with
    | zero => cases ha
    | succ i =>
      cases j with
      | zero => cases hb
      | succ j => exact congrArg (· + 1) (f2 i j a ha hb)
  · intro i
    cases i with
    | zero => exact List.nodup_nil
    | succ i => exact f3 i
  · intro i hi
    cases i with
    | zero => simp at hi
    | succ i => exact f4 i (by simpa using hi)
  · intro i m e
    cases i with
    | zero =>
      simp only [List.getElem?_cons_zero, Option.some.injEq] at e
      subst e
      rfl
    | succ i =>
      have := sl i m (by simpa using e)
      simpa using this
/-- a method at a list that an expression has just made: what is left of it is dropped -/
def mFM (m : ME) (a : MA) (g : D → List D → Option (D × Option D)) : ME := fun ρ => match m ρ with
  | .ok c ρ1 => if kindOk shL c = true then (match a ρ1 with
    | .ok ds ρ2 => match g c ds with
      | none => .bad
      | some (z, _) => .ok z ρ2
    | .exc e ρ2 => .exc e ρ2
    | .bad => .bad) else .bad
  | .exc e ρ1 => .exc e ρ1
  | .bad => .bad
theorem se_fM {pre : V → Hp → Prop} {R : V → List V → Hp → VK → Prop} {g : D → List D → Option (D × Option D)} {m : ME} {a : MA} {t : TE} {ta : TA} (hs : shS r shL = true) (s1 : SE X.K G E r μ t m) (op : OpM X.K G shL pre R g) (sa : SA X.K G E μ ta a) :
    SE X.K G E .d μ (fun σ H Q => t σ H fun x H1 => pre x H1 ∧ ta σ H1 fun vs H2 => R x vs H2 Q) (mFM m a g) := by
  refine fun F S H σ ρ h Q k => s1 F S H σ ρ h _ ?_
  unfold mFM at k
  cases q1 : m ρ with
  | bad => rw [q1] at k; exact k
  | exc e ρ1 => rw [q1] at k; exact k
  | ok c ρ1 =>
    rw [q1] at k
    dsimp only at k
    intro v S1 H1 e1 h1
    split at k
    · rename_i hk
      obtain ⟨fp, sl, fo, hl⟩ := h1.lend (i := 0) rfl
      obtain ⟨p', hp', ow, back⟩ := slot_ow (sh := shL) sl hs hk
      obtain ⟨p, ep, rfl⟩ := ow.one rfl
      cases ep
      have hv : v = .ref p' := by
        have : (some (some v) : Option (Option V)) = some (some (.ref p')) := hp'
        cases this
        rfl
      subst hv
      refine ⟨op.pre S1 H1 p' c ow, sa _ S1 H1 σ ρ1 hl.tail _ ?_⟩
      have fo2 : ∀ {S2 H2 : Hp} {ρ2 : List D}, EnvOk X.K G (F.lend H1 [p']) S2 H2 μ σ ρ2 → Fp F S2 H1 [p'] := fun {S2 H2 ρ2} h2 => by
        refine ⟨fo.nd, fun a ha => ?_, fo.th⟩
        obtain ⟨o, qo, nt0⟩ := fo.th a ha
        exact ⟨(h2.fk a o (by rw [Fo.lend_in ha, qo, ntOnly_of nt0])).2, (fo.fr a ha).2⟩
      cases q2 : a ρ1 with
      | bad => rw [q2] at k; exact k
      | exc e ρ2 =>
        rw [q2] at k
        dsimp only at k
        intro cc dct S2 H2 e2 h2 z
        have h3 := (h2.pushX (s := some (.ref p')) (d := c)).unlend (S := S2) (H := H2) (μ := .x :: μ) (i := 0) (m' := .x) (d' := c) (fp' := []) (H2 := H2) (by simp) (fo2 h2) (fun a _ => rfl) rfl List.nodup_nil (fun a ha => by cases ha)
        exact k cc dct S2 H2 (e1.trans e2) h3.tail z
      | ok ds ρ2 =>
        rw [q2] at k
        dsimp only at k
        intro vs S2 H2 e2 h2 q3
        have fr : Fp F S1 H1 [p'] := fo
        have back2 : ∀ o d3, FlatAt X.K G S2 (upd H2 p' o) shL p' d3 → EnvOk X.K G F S2 (upd H2 p' o) μ σ ρ2 := fun o d3 w =>
          ((h2.pushX (s := some (.ref p')) (d := c)).unlend (S := S2) (H := H2) (μ := .x :: μ) (i := 0) (m' := r) (d' := d3) (fp' := [p']) (H2 := upd H2 p' o) (by simp) (fo2 h2) (fun a ha => upd_ne fun z => ha (by simp [z])) (back S2 _ d3 [p'] w) fo.nd fun a ha => ha).tail
        have h4 := (h2.pushX (s := some (.ref p')) (d := c)).unlend0 (μ := r :: μ) (i := 0) (m := r) (d := c) rfl fo e2 sl
        obtain ⟨fp2, sl2, _, _⟩ := h4.lend (i := 0) rfl
        obtain ⟨p2, hp2, ow2, _⟩ := slot_ow (sh := shL) sl2 hs hk
        have ep2 : p2 = p' := by
          have : (some (some (.ref p')) : Option (Option V)) = some (some (.ref p2)) := hp2
          cases this
          rfl
        subst ep2
        obtain ⟨_, ep3, e3⟩ := ow2.one rfl
        cases ep3
        subst e3
        cases q5 : g c ds with
        | none => rw [q5] at k; exact k.elim
        | some zo =>
          rw [q5] at k
          obtain ⟨z, oc⟩ := zo
          refine op.go S2 H2 p2 c ds vs z oc h2.sh ow2 q3 q5 Q ?_
          cases oc with
          | none => exact fun w dw => k w S2 H2 (e1.trans e2) (h4.tail.push dw)
          | some c2 => exact fun o w f4 dw => k w S2 _ (e1.trans e2) ((back2 o c2 f4).push dw)
    · exact k.elim
variable {e a0 : Expr} {es : List Expr} {m : ME} {a : MA} {ap cp : Pos}
theorem je_fM {g : D → List D → Option (D × Option D)} {R : V → List V → Hp → VK → Prop} {name : Str} {T id : String} (pa : PlainAttrs T) (slot : Slot T name id) (hty : typeOf (.builtin id) = pure (.type "method_descriptor")) (hm : MtR X id R)
    (op : OpM X.K G shL (tyV X.K T) R g) (he : JE X G E r μ e m) (ha : JA X G E μ (a0 :: es) a) (hr : shS r shL = true)
    (hb : attributeBase e name X.env (eval e X.env) = eval e X.env := by rfl)
    (hf : ((backTo cp (starEach (a0 :: es) X.env)).all (fun x => !x.1) && (backToKw cp (keywordEach [] X.env)).all (fun x => x.1.isSome) && decide ((a0 :: es).length + ([] : List Keyword).length + (if ([] : List Keyword).isEmpty then 0 else 1) < 30)) = true := by rfl)
    (hl : (ap.endLine == cp.line) = true := by rfl) (hs : starEach (a0 :: es) X.env = (false, eval a0 X.env) :: starEach es X.env := by rfl) (hp : (backTo cp (starEach es X.env)).any (·.1) = false := by rfl) :
    JE X G E .d μ (.Call (.Attribute e name ap) (a0 :: es) [] cp) (mFM m a g) := by
  obtain ⟨t, pe, s1⟩ := he.ex
  obtain ⟨ta, p1, sa⟩ := ha.ex
  exact ⟨_, pe_bm pa slot hty hm pe p1 hb hf hl hs hp, se_fM hr s1 op sa⟩
theorem je_fAppend (he : JE X G E r μ e m) (ha : JA X G E μ [a0] a) (hr : shS r shL = true := by rfl)
    (hb : attributeBase e "append" X.env (eval e X.env) = eval e X.env := by rfl) (hf : ((backTo cp (starEach [a0] X.env)).all (fun x => !x.1) && (backToKw cp (keywordEach [] X.env)).all (fun x => x.1.isSome) && decide (([a0] : List Expr).length + ([] : List Keyword).length + (if ([] : List Keyword).isEmpty then 0 else 1) < 30)) = true := by rfl)
    (hl : (ap.endLine == cp.line) = true := by rfl) (hs : starEach [a0] X.env = (false, eval a0 X.env) :: starEach [] X.env := by rfl) (hp : (backTo cp (starEach [] X.env)).any (·.1) = false := by rfl) : JE X G E .d μ (.Call (.Attribute e "append" ap) [a0] [] cp) (mFM m a gAppend) :=
  je_fM PySem.F.plainAttrs_list PySem.F.slot_list_append PySem.F.type_list_append mt_append om_append he ha hr hb hf hl hs hp
end
end MR

set_option Elab.async false
set_option linter.all false
set_option maxRecDepth 100000
set_option maxHeartbeats 1000000
/-! PB: how mirrors reckon: rules for simp. -/
namespace MR
open PySem L2

/-! ### outcomes -/
def Out.andThen (o : Out) (b : MS) : Out := match o with
  | .nx ρ => b ρ
  | o => o
section
variable {a b c : MS} {ρ : List D} {d : D} {e : Err}
@[simp] theorem then_nx : (Out.nx ρ).andThen b = b ρ := rfl
@[simp] theorem then_ret : (Out.ret d ρ).andThen b = .ret d ρ := rfl
@[simp] theorem then_brk : (Out.brk ρ).andThen b = .brk ρ := rfl
@[simp] theorem then_cnt : (Out.cnt ρ).andThen b = .cnt ρ := rfl
@[simp] theorem then_exc : (Out.exc e ρ).andThen b = .exc e ρ := rfl
@[simp] theorem then_bad : Out.bad.andThen b = .bad := rfl
@[simp] theorem mSeq_eq : mSeq a b ρ = (a ρ).andThen b := by unfold mSeq; cases a ρ <;> rfl
@[simp] theorem mNext_eq : mNext ρ = .nx ρ := rfl
@[simp] theorem mPass_eq : mPass ρ = .nx ρ := rfl
@[simp] theorem mBreak_eq : mBreak ρ = .brk ρ := rfl
@[simp] theorem mCont_eq : mCont ρ = .cnt ρ := rfl
def Out.keep' (μ : List Mode) (o : Out) : Out := match o with
  | .nx ρ => .nx (keep μ ρ)
  | o => o
@[simp] theorem keep_nx {μ} : (Out.nx ρ).keep' μ = .nx (keep μ ρ) := rfl
@[simp] theorem keep_ret {μ} : (Out.ret d ρ).keep' μ = .ret d ρ := rfl
@[simp] theorem keep_brk {μ} : (Out.brk ρ).keep' μ = .brk ρ := rfl
@[simp] theorem keep_cnt {μ} : (Out.cnt ρ).keep' μ = .cnt ρ := rfl
@[simp] theorem keep_exc {μ} : (Out.exc e ρ).keep' μ = .exc e ρ := rfl
@[simp] theorem keep_bad {μ} : Out.bad.keep' μ = .bad := rfl
@[simp] theorem mKeep_eq {μ} : mKeep μ a ρ = (a ρ).keep' μ := by unfold mKeep; cases a ρ <;> rfl
@[simp] theorem mKeep0_eq {μ} : mKeep0 μ a ρ = a (keep μ ρ) := rfl
@[simp] theorem keep_x {ms : List Mode} {ds : List D} : keep (.x :: ms) (d :: ds) = .non :: keep ms ds := rfl
@[simp] theorem keep_d {ms : List Mode} {ds : List D} : keep (.d :: ms) (d :: ds) = d :: keep ms ds := rfl
@[simp] theorem keep_o {ms : List Mode} {ds : List D} : keep (.o :: ms) (d :: ds) = d :: keep ms ds := rfl
@[simp] theorem keep_w {sh : Sh} {ms : List Mode} {ds : List D} : keep (.w sh :: ms) (d :: ds) = d :: keep ms ds := rfl
@[simp] theorem keep_s {k : Nat} {sh : Sh} {ms : List Mode} {ds : List D} : keep (.s k sh :: ms) (d :: ds) = d :: keep ms ds := rfl
@[simp] theorem keep_e {a : Addr} {ms : List Mode} {ds : List D} : keep (.e a :: ms) (d :: ds) = d :: keep ms ds := rfl
@[simp] theorem keep_nil {ds : List D} : keep [] ds = [] := by cases ds <;> rfl
end
section
variable {α β : Type} {a b : ME} {ma : MA} {t u : MT} {s1 s2 : MS} {ρ : List D} {d x y : D} {ds : List D} {e : Err} {i j : Nat}
def RR.asg (o : RR D) (i : Nat) : Out := match o with
  | .ok d ρ' => .nx (ρ'.set i d)
  | .exc e ρ' => .exc e ρ'
  | .bad => .bad
@[simp] theorem asg_ok : (RR.ok d ρ).asg i = .nx (ρ.set i d) := rfl
@[simp] theorem asg_exc : (RR.exc e ρ : RR D).asg i = .exc e ρ := rfl
@[simp] theorem asg_bad : (RR.bad : RR D).asg i = .bad := rfl
@[simp] theorem mAsg_eq : mAsg i a ρ = (a ρ).asg i := rfl
def RR.ret (o : RR D) : Out := match o with
  | .ok d ρ' => .ret d ρ'
  | .exc e ρ' => .exc e ρ'
  | .bad => .bad
@[simp] theorem ret_ok : (RR.ok d ρ).ret = .ret d ρ := rfl
@[simp] theorem ret_exc : (RR.exc e ρ : RR D).ret = .exc e ρ := rfl
@[simp] theorem ret_bad : (RR.bad : RR D).ret = .bad := rfl
@[simp] theorem mRet_eq : mRet a ρ = (a ρ).ret := rfl
@[simp] theorem mRetO_eq : mRetO i ρ = .ret (ρ.getD i .non) ρ := rfl
def RR.drop (o : RR D) : Out := match o with
  | .ok _ ρ' => .nx ρ'
  | .exc e ρ' => .exc e ρ'
  | .bad => .bad
@[simp] theorem drop_ok : (RR.ok d ρ).drop = .nx ρ := rfl
@[simp] theorem drop_exc : (RR.exc e ρ : RR D).drop = .exc e ρ := rfl
@[simp] theorem drop_bad : (RR.bad : RR D).drop = .bad := rfl
@[simp] theorem mDrop_eq : mDrop a ρ = (a ρ).drop := rfl
def RR.branch (o : RR Bool) (a b : MS) : Out := match o with
  | .ok true ρ' => a ρ'
  | .ok false ρ' => b ρ'
  | .exc e ρ' => .exc e ρ'
  | .bad => .bad
@[simp] theorem branch_t : (RR.ok true ρ).branch s1 s2 = s1 ρ := rfl
@[simp] theorem branch_f : (RR.ok false ρ).branch s1 s2 = s2 ρ := rfl
@[simp] theorem branch_exc : (RR.exc e ρ : RR Bool).branch s1 s2 = .exc e ρ := rfl
@[simp] theorem branch_bad : (RR.bad : RR Bool).branch s1 s2 = .bad := rfl
@[simp] theorem mIf_eq : mIf t s1 s2 ρ = (t ρ).branch s1 s2 := rfl
theorem branch_ite {p : Bool} : (RR.ok p ρ).branch s1 s2 = if p = true then s1 ρ else s2 ρ := by cases p <;> rfl
/-- expressions -/
@[simp] theorem mVar_eq : mVar i ρ = .ok (ρ.getD i .non) ρ := rfl
@[simp] theorem mC_eq : mC d ρ = .ok d ρ := rfl
def RR.op1 (o : RR D) (f : D → D → Option α) (b : ME) : RR α := o.bind fun x ρ1 => (b ρ1).bind fun y ρ2 => RR.of (f x y) ρ2
def RR.op2 (o : RR D) (f : D → D → Option α) (x : D) : RR α := o.bind fun y ρ2 => RR.of (f x y) ρ2
@[simp] theorem op1_ok {f : D → D → Option α} : (RR.ok x ρ).op1 f b = (b ρ).op2 f x := rfl
@[simp] theorem op1_exc {f : D → D → Option α} : (RR.exc e ρ : RR D).op1 f b = .exc e ρ := rfl
@[simp] theorem op1_bad {f : D → D → Option α} : (RR.bad : RR D).op1 f b = .bad := rfl
@[simp] theorem op2_ok {f : D → D → Option α} : (RR.ok y ρ).op2 f x = RR.of (f x y) ρ := rfl
@[simp] theorem op2_exc {f : D → D → Option α} : (RR.exc e ρ : RR D).op2 f x = .exc e ρ := rfl
@[simp] theorem op2_bad {f : D → D → Option α} : (RR.bad : RR D).op2 f x = .bad := rfl
@[simp] theorem rr_of_some {a : α} : RR.of (some a) ρ = .ok a ρ := rfl
@[simp] theorem rr_of_none : (RR.of none ρ : RR α) = .bad := rfl
@[simp] theorem mOp_eq {f : D → D → Option D} : mOp f a b ρ = (a ρ).op1 f b := rfl
@[simp] theorem mCmpT_eq {f : D → D → Option Bool} : mCmpT f a b ρ = (a ρ).op1 f b := rfl
def RR.bl (o : RR Bool) : RR D := o.bind fun x ρ1 => .ok (.bl x) ρ1
@[simp] theorem bl_ok {p : Bool} : (RR.ok p ρ).bl = .ok (.bl p) ρ := rfl
@[simp] theorem bl_exc : (RR.exc e ρ : RR Bool).bl = .exc e ρ := rfl
@[simp] theorem bl_bad : (RR.bad : RR Bool).bl = .bad := rfl
@[simp] theorem mCmp_eq {f : D → D → Option Bool} : mCmp f a b ρ = ((a ρ).op1 f b).bl := by
  unfold mCmp mOp RR.op1 RR.bl
  cases a ρ with
  | ok x ρ1 =>
    simp only [bind_ok]
    cases b ρ1 with
    | ok y ρ2 => simp only [bind_ok]; cases f x y <;> rfl
    | exc _ _ => rfl
    | bad => rfl
  | exc _ _ => rfl
  | bad => rfl
def RR.un (o : RR D) (f : D → Option α) : RR α := o.bind fun x ρ1 => RR.of (f x) ρ1
@[simp] theorem un_ok {f : D → Option α} : (RR.ok x ρ).un f = RR.of (f x) ρ := rfl
@[simp] theorem un_exc {f : D → Option α} : (RR.exc e ρ : RR D).un f = .exc e ρ := rfl
@[simp] theorem un_bad {f : D → Option α} : (RR.bad : RR D).un f = .bad := rfl
@[simp] theorem mUn_eq {f : D → Option D} : mUn f a ρ = (a ρ).un f := rfl
@[simp] theorem mTr_eq : mTr a ρ = (a ρ).un truth := rfl
@[simp] theorem mItL_eq : mItL a ρ = (a ρ).un itemsOf := rfl
def fIxO (d y : D) : Option D := match d with
  | .lst ds => fIx (.lst ds) y
  | _ => none
@[simp] theorem fIxO_lst : fIxO (.lst ds) y = fIx (.lst ds) y := rfl
def RR.ixO (o : RR D) (i : Nat) : RR D := o.bind fun y ρ1 => RR.of (fIxO (ρ1.getD i .non) y) ρ1
@[simp] theorem ixO_ok : (RR.ok y ρ).ixO i = RR.of (fIxO (ρ.getD i .non) y) ρ := rfl
@[simp] theorem ixO_exc : (RR.exc e ρ : RR D).ixO i = .exc e ρ := rfl
@[simp] theorem ixO_bad : (RR.bad : RR D).ixO i = .bad := rfl
@[simp] theorem mIxO_eq : mIxO i b ρ = (b ρ).ixO i := rfl
/-- tests -/
def RR.andT (o : RR Bool) (u : MT) : RR Bool := o.bind fun x ρ1 => if x = true then u ρ1 else .ok false ρ1
def RR.orT (o : RR Bool) (u : MT) : RR Bool := o.bind fun x ρ1 => if x = true then .ok true ρ1 else u ρ1
def RR.notT (o : RR Bool) : RR Bool := o.bind fun x ρ1 => .ok (!x) ρ1
@[simp] theorem andT_t : (RR.ok true ρ).andT u = u ρ := rfl
@[simp] theorem andT_f : (RR.ok false ρ).andT u = .ok false ρ := rfl
@[simp] theorem andT_exc : (RR.exc e ρ : RR Bool).andT u = .exc e ρ := rfl
@[simp] theorem andT_bad : (RR.bad : RR Bool).andT u = .bad := rfl
@[simp] theorem orT_t : (RR.ok true ρ).orT u = .ok true ρ := rfl
@[simp] theorem orT_f : (RR.ok false ρ).orT u = u ρ := rfl
@[simp] theorem orT_exc : (RR.exc e ρ : RR Bool).orT u = .exc e ρ := rfl
@[simp] theorem orT_bad : (RR.bad : RR Bool).orT u = .bad := rfl
@[simp] theorem notT_ok {p : Bool} : (RR.ok p ρ).notT = .ok (!p) ρ := rfl
@[simp] theorem notT_exc : (RR.exc e ρ : RR Bool).notT = .exc e ρ := rfl
@[simp] theorem notT_bad : (RR.bad : RR Bool).notT = .bad := rfl
@[simp] theorem mAnd_eq : mAnd t u ρ = (t ρ).andT u := rfl
@[simp] theorem mOr_eq : mOr t u ρ = (t ρ).orT u := rfl
@[simp] theorem mNot_eq : mNot t ρ = (t ρ).notT := rfl
theorem andT_ite {p : Bool} : (RR.ok p ρ).andT u = if p = true then u ρ else .ok false ρ := by cases p <;> rfl
theorem orT_ite {p : Bool} : (RR.ok p ρ).orT u = if p = true then .ok true ρ else u ρ := by cases p <;> rfl
def RR.andV (o : RR D) (b : ME) : RR D := o.bind fun x ρ1 => match x with
  | .bl true => b ρ1
  | .bl false => .ok (.bl false) ρ1
  | _ => .bad
def RR.orV (o : RR D) (b : ME) : RR D := o.bind fun x ρ1 => match x with
  | .bl true => .ok (.bl true) ρ1
  | .bl false => b ρ1
  | _ => .bad
@[simp] theorem andV_t : (RR.ok (.bl true) ρ).andV b = b ρ := rfl
@[simp] theorem andV_f : (RR.ok (.bl false) ρ).andV b = .ok (.bl false) ρ := rfl
@[simp] theorem andV_exc : (RR.exc e ρ : RR D).andV b = .exc e ρ := rfl
@[simp] theorem andV_bad : (RR.bad : RR D).andV b = .bad := rfl
@[simp] theorem orV_t : (RR.ok (.bl true) ρ).orV b = .ok (.bl true) ρ := rfl
@[simp] theorem orV_f : (RR.ok (.bl false) ρ).orV b = b ρ := rfl
@[simp] theorem orV_exc : (RR.exc e ρ : RR D).orV b = .exc e ρ := rfl
@[simp] theorem orV_bad : (RR.bad : RR D).orV b = .bad := rfl
@[simp] theorem mAndV_eq : mAndV a b ρ = (a ρ).andV b := rfl
@[simp] theorem mOrV_eq : mOrV a b ρ = (a ρ).orV b := rfl
theorem andV_ite {p : Bool} : (RR.ok (.bl p) ρ).andV b = if p = true then b ρ else .ok (.bl false) ρ := by cases p <;> rfl
theorem orV_ite {p : Bool} : (RR.ok (.bl p) ρ).orV b = if p = true then .ok (.bl true) ρ else b ρ := by cases p <;> rfl
def RR.ifE (o : RR Bool) (a b : ME) : RR D := o.bind fun x ρ1 => if x = true then a ρ1 else b ρ1
@[simp] theorem ifE_t : (RR.ok true ρ).ifE a b = a ρ := rfl
@[simp] theorem ifE_f : (RR.ok false ρ).ifE a b = b ρ := rfl
@[simp] theorem ifE_exc : (RR.exc e ρ : RR Bool).ifE a b = .exc e ρ := rfl
@[simp] theorem ifE_bad : (RR.bad : RR Bool).ifE a b = .bad := rfl
@[simp] theorem mIfE_eq : mIfE t a b ρ = (t ρ).ifE a b := rfl
/-- arguments -/
@[simp] theorem mNil_eq : mNil ρ = .ok [] ρ := rfl
def RR.cons1 (o : RR D) (b : MA) : RR (List D) := o.bind fun x ρ1 => (b ρ1).bind fun xs ρ2 => .ok (x :: xs) ρ2
def RR.cons2 (o : RR (List D)) (x : D) : RR (List D) := o.bind fun xs ρ2 => .ok (x :: xs) ρ2
@[simp] theorem cons1_ok : (RR.ok x ρ).cons1 ma = (ma ρ).cons2 x := rfl
@[simp] theorem cons1_exc : (RR.exc e ρ : RR D).cons1 ma = .exc e ρ := rfl
@[simp] theorem cons1_bad : (RR.bad : RR D).cons1 ma = .bad := rfl
@[simp] theorem cons2_ok : (RR.ok ds ρ).cons2 x = .ok (x :: ds) ρ := rfl
@[simp] theorem cons2_exc : (RR.exc e ρ : RR (List D)).cons2 x = .exc e ρ := rfl
@[simp] theorem cons2_bad : (RR.bad : RR (List D)).cons2 x = .bad := rfl
@[simp] theorem mCons_eq : mCons a ma ρ = (a ρ).cons1 ma := rfl
def RR.args (o : RR (List D)) (f : List D → Option α) : RR α := o.bind fun ds ρ1 => RR.of (f ds) ρ1
@[simp] theorem args_ok {f : List D → Option α} : (RR.ok ds ρ).args f = RR.of (f ds) ρ := rfl
@[simp] theorem args_exc {f : List D → Option α} : (RR.exc e ρ : RR (List D)).args f = .exc e ρ := rfl
@[simp] theorem args_bad {f : List D → Option α} : (RR.bad : RR (List D)).args f = .bad := rfl
@[simp] theorem mCB_eq {f : List D → Option D} : mCB f ma ρ = (ma ρ).args f := rfl
@[simp] theorem mRng_eq {f : List D → Option (List D)} : mRng f ma ρ = (ma ρ).args f := rfl
def RR.tup (o : RR (List D)) : RR D := o.bind fun ds ρ1 => if ds.length ≤ 1000 then .ok (.tup ds) ρ1 else .bad
def RR.lst (o : RR (List D)) : RR D := o.bind fun ds ρ1 => if ds.length ≤ 1000 then .ok (.lst ds) ρ1 else .bad
@[simp] theorem tup_ok : (RR.ok ds ρ).tup = if ds.length ≤ 1000 then .ok (.tup ds) ρ else .bad := rfl
@[simp] theorem tup_exc : (RR.exc e ρ : RR (List D)).tup = .exc e ρ := rfl
@[simp] theorem tup_bad : (RR.bad : RR (List D)).tup = .bad := rfl
@[simp] theorem lst_ok : (RR.ok ds ρ).lst = if ds.length ≤ 1000 then .ok (.lst ds) ρ else .bad := rfl
@[simp] theorem lst_exc : (RR.exc e ρ : RR (List D)).lst = .exc e ρ := rfl
@[simp] theorem lst_bad : (RR.bad : RR (List D)).lst = .bad := rfl
@[simp] theorem mTup_eq : mTup ma ρ = (ma ρ).tup := rfl
@[simp] theorem mLst_eq : mLst ma ρ = (ma ρ).lst := rfl
/-- calls -/
def RP.to (p : RP) (ρ : List D) : RR D := match p with
  | .ok d => .ok d ρ
  | .exc e => .exc e ρ
  | .bad => .bad
@[simp] theorem to_ok : (RP.ok d).to ρ = .ok d ρ := rfl
@[simp] theorem to_exc : (RP.exc e).to ρ = .exc e ρ := rfl
@[simp] theorem to_bad : RP.bad.to ρ = .bad := rfl
def RR.call (o : RR (List D)) (f : MP) (dd : List D) : RR D := o.bind fun ds ρ1 => (f (ds ++ dd)).to ρ1
@[simp] theorem call_ok {f : MP} {dd : List D} : (RR.ok ds ρ).call f dd = (f (ds ++ dd)).to ρ := rfl
@[simp] theorem call_exc {f : MP} {dd : List D} : (RR.exc e ρ : RR (List D)).call f dd = .exc e ρ := rfl
@[simp] theorem call_bad {f : MP} {dd : List D} : (RR.bad : RR (List D)).call f dd = .bad := rfl
@[simp] theorem mCall_eq {f : MP} {dd : List D} : mCall f dd ma ρ = (ma ρ).call f dd := rfl
def Out.done (o : Out) (rm : Mode) : RP := match o with
  | .ret d _ => .ok d
  | .nx _ => match rm with
    | .d => .ok .non
    | _ => .bad
  | .exc e _ => .exc e
  | _ => .bad
@[simp] theorem done_ret {rm} : (Out.ret d ρ).done rm = .ok d := rfl
@[simp] theorem done_nx : (Out.nx ρ).done .d = .ok .non := rfl
@[simp] theorem done_exc {rm} : (Out.exc e ρ).done rm = .exc e := rfl
@[simp] theorem done_bad {rm} : Out.bad.done rm = .bad := rfl
theorem mDef_eq {rm : Mode} {k : Nat} {s : MS} : mDef rm k s ds = (s (ds ++ List.replicate k .non)).done rm := by
  unfold mDef Out.done
  cases s (ds ++ List.replicate k .non) <;> rfl
/-- targets, parallel stores, raise -/
@[simp] theorem bName_eq : bName i d ρ = some (ρ.set i d) := rfl
@[simp] theorem bNil_eq : bNil [] ρ = some ρ := rfl
@[simp] theorem bCons_eq {f : MB} {g : List D → List D → Option (List D)} : bCons f g (d :: ds) ρ = (f d ρ).bind (g ds) := by
  show (match f d ρ with | some ρ1 => g ds ρ1 | none => none) = _
  cases f d ρ <;> rfl
@[simp] theorem bTup_eq {n : Nat} {g : List D → List D → Option (List D)} : bTup n g (.tup ds) ρ = if ds.length = n then g ds ρ else none := rfl
def RR.asgT (o : RR D) (g : MB) : Out := match o with
  | .ok d ρ1 => match g d ρ1 with
    | some ρ2 => .nx ρ2
    | none => .bad
  | .exc e ρ1 => .exc e ρ1
  | .bad => .bad
def Out.ofO (o : Option (List D)) : Out := match o with
  | some ρ => .nx ρ
  | none => .bad
@[simp] theorem ofO_some : Out.ofO (some ρ) = .nx ρ := rfl
@[simp] theorem ofO_none : Out.ofO none = .bad := rfl
@[simp] theorem asgT_ok {g : MB} : (RR.ok d ρ).asgT g = Out.ofO (g d ρ) := by
  show (match g d ρ with | some ρ2 => Out.nx ρ2 | none => .bad) = _
  cases g d ρ <;> rfl
@[simp] theorem asgT_exc {g : MB} : (RR.exc e ρ : RR D).asgT g = .exc e ρ := rfl
@[simp] theorem asgT_bad {g : MB} : (RR.bad : RR D).asgT g = .bad := rfl
@[simp] theorem mAsgT_eq {g : MB} : mAsgT g a ρ = (a ρ).asgT g := rfl
def RR.par1 (o : RR D) (i j : Nat) (b : ME) : Out := match o with
  | .ok d ρ1 => match b ρ1 with
    | .ok d2 ρ2 => .nx ((ρ2.set i d).set j d2)
    | .exc e ρ1 => .exc e ρ1
    | .bad => .bad
  | .exc e ρ1 => .exc e ρ1
  | .bad => .bad
def RR.par2 (o : RR D) (i j : Nat) (d : D) : Out := match o with
    | .ok d2 ρ2 => .nx ((ρ2.set i d).set j d2)
    | .exc e ρ1 => .exc e ρ1
    | .bad => .bad
@[simp] theorem par1_ok : (RR.ok d ρ).par1 i j b = (b ρ).par2 i j d := rfl
@[simp] theorem par1_exc : (RR.exc e ρ : RR D).par1 i j b = .exc e ρ := rfl
@[simp] theorem par1_bad : (RR.bad : RR D).par1 i j b = .bad := rfl
@[simp] theorem par2_ok : (RR.ok x ρ).par2 i j d = .nx ((ρ.set i d).set j x) := rfl
@[simp] theorem par2_exc : (RR.exc e ρ : RR D).par2 i j d = .exc e ρ := rfl
@[simp] theorem par2_bad : (RR.bad : RR D).par2 i j d = .bad := rfl
@[simp] theorem mPar_eq : mPar i j a b ρ = (a ρ).par1 i j b := rfl
def RR.raise (o : RR (List D)) (er : Err) : Out := match o with
  | .ok _ ρ1 => .exc er ρ1
  | .exc e ρ1 => .exc e ρ1
  | .bad => .bad
@[simp] theorem raise_ok {er : Err} : (RR.ok ds ρ).raise er = .exc er ρ := rfl
@[simp] theorem raise_exc {er : Err} : (RR.exc e ρ : RR (List D)).raise er = .exc e ρ := rfl
@[simp] theorem raise_bad {er : Err} : (RR.bad : RR (List D)).raise er = .bad := rfl
@[simp] theorem mRaise_eq {er : Err} : mRaise er ma ρ = (ma ρ).raise er := rfl
def Out.tryBy (o : Out) (tags : List Nat) (n : Nat) (μh : List Mode) (h : Err → MS) : Out := match o with
  | .exc e ρ1 => if tags.contains e.tag = true then (if errIs e n = true then h e (keep μh ρ1) else .exc e ρ1) else .bad
  | o => o
section
variable {tags : List Nat} {n : Nat} {μh : List Mode} {h : Err → MS}
@[simp] theorem try_nx : (Out.nx ρ).tryBy tags n μh h = .nx ρ := rfl
@[simp] theorem try_ret : (Out.ret d ρ).tryBy tags n μh h = .ret d ρ := rfl
@[simp] theorem try_brk : (Out.brk ρ).tryBy tags n μh h = .brk ρ := rfl
@[simp] theorem try_cnt : (Out.cnt ρ).tryBy tags n μh h = .cnt ρ := rfl
@[simp] theorem try_bad : Out.bad.tryBy tags n μh h = .bad := rfl
@[simp] theorem try_exc : (Out.exc e ρ).tryBy tags n μh h = if tags.contains e.tag = true then (if errIs e n = true then h e (keep μh ρ) else .exc e ρ) else .bad := rfl
@[simp] theorem mTry_eq : mTry tags n μh s1 h ρ = (s1 ρ).tryBy tags n μh h := by unfold mTry; cases s1 ρ <;> rfl
end
/-- walked things -/
def RR.itT (o : RR D) : RR (List D) := o.bind fun d ρ1 => RR.of (match d with | .tup ds => some ds | _ => none) ρ1
@[simp] theorem itT_tup : (RR.ok (.tup ds) ρ).itT = .ok ds ρ := rfl
@[simp] theorem itT_exc : (RR.exc e ρ : RR D).itT = .exc e ρ := rfl
@[simp] theorem itT_bad : (RR.bad : RR D).itT = .bad := rfl
@[simp] theorem mItT_eq : mItT a ρ = (a ρ).itT := rfl
@[simp] theorem items_lst : itemsOf (.lst ds) = some ds := rfl
@[simp] theorem items_scr {ns : List Int} : itemsOf (.scr ns) = some (ns.map .int) := rfl
def RR.forIn' (o : RR (List D)) (g : MB) (s : MS) : Out := match o with
  | .ok ds ρ1 => forL g s ds ρ1
  | .exc e ρ1 => .exc e ρ1
  | .bad => .bad
@[simp] theorem forIn_ok {g : MB} : (RR.ok ds ρ).forIn' g s1 = forL g s1 ds ρ := rfl
@[simp] theorem forIn_exc {g : MB} : (RR.exc e ρ : RR (List D)).forIn' g s1 = .exc e ρ := rfl
@[simp] theorem forIn_bad {g : MB} : (RR.bad : RR (List D)).forIn' g s1 = .bad := rfl
@[simp] theorem mFor_eq {g : MB} : mFor ma g s1 ρ = (ma ρ).forIn' g s1 := rfl
def Out.loop (o : Out) (k : MS) : Out := match o with
  | .nx ρ => k ρ
  | .cnt ρ => k ρ
  | .brk ρ => .nx ρ
  | o => o
@[simp] theorem loop_nx {k : MS} : (Out.nx ρ).loop k = k ρ := rfl
@[simp] theorem loop_cnt {k : MS} : (Out.cnt ρ).loop k = k ρ := rfl
@[simp] theorem loop_brk {k : MS} : (Out.brk ρ).loop k = .nx ρ := rfl
@[simp] theorem loop_ret {k : MS} : (Out.ret d ρ).loop k = .ret d ρ := rfl
@[simp] theorem loop_exc {k : MS} : (Out.exc e ρ).loop k = .exc e ρ := rfl
@[simp] theorem loop_bad {k : MS} : Out.bad.loop k = .bad := rfl
def Out.bindO (o : Option (List D)) (s : MS) : Out := match o with
  | some ρ => s ρ
  | none => .bad
@[simp] theorem bindO_some : Out.bindO (some ρ) s1 = s1 ρ := rfl
@[simp] theorem bindO_none : Out.bindO none s1 = .bad := rfl
@[simp] theorem forL_nil {g : MB} : forL g s1 [] ρ = .nx ρ := rfl
theorem forL_cons {g : MB} : forL g s1 (d :: ds) ρ = (Out.bindO (g d ρ) s1).loop (forL g s1 ds) := by
  show (match g d ρ with | none => Out.bad | some ρ1 => match s1 ρ1 with | .nx ρ2 => forL g s1 ds ρ2 | .cnt ρ2 => forL g s1 ds ρ2 | .brk ρ2 => .nx ρ2 | o => o) = _
  cases g d ρ with
  | none => rfl
  | some ρ1 =>
    show (match s1 ρ1 with | .nx ρ2 => forL g s1 ds ρ2 | .cnt ρ2 => forL g s1 ds ρ2 | .brk ρ2 => Out.nx ρ2 | o => o) = (s1 ρ1).loop (forL g s1 ds)
    cases s1 ρ1 <;> rfl
/-- a loop whose turns leave all as it is -/
theorem forL_same {g : MB} : ∀ {ds : List D}, (∀ d ∈ ds, ∃ ρ1, g d ρ = some ρ1 ∧ (s1 ρ1 = .nx ρ ∨ s1 ρ1 = .cnt ρ)) → forL g s1 ds ρ = .nx ρ
  | [], _ => rfl
  | d :: ds, h => by
    obtain ⟨ρ1, h1, h2⟩ := h d List.mem_cons_self
    rw [forL_cons, h1, bindO_some]
    rcases h2 with h2 | h2 <;> rw [h2] <;> exact forL_same fun d' hd => h d' (List.mem_cons_of_mem _ hd)
@[simp] theorem mWhile_eq {f : List D → Nat} : mWhile f t s1 ρ = whileN t s1 (f ρ) ρ := rfl
def RR.wh (o : RR Bool) (s k : MS) : Out := match o with
  | .ok true ρ1 => (s ρ1).loop k
  | .ok false ρ1 => .nx ρ1
  | .exc e ρ1 => .exc e ρ1
  | .bad => .bad
@[simp] theorem wh_t {k : MS} : (RR.ok true ρ).wh s1 k = (s1 ρ).loop k := rfl
@[simp] theorem wh_f {k : MS} : (RR.ok false ρ).wh s1 k = .nx ρ := rfl
@[simp] theorem wh_exc {k : MS} : (RR.exc e ρ : RR Bool).wh s1 k = .exc e ρ := rfl
@[simp] theorem wh_bad {k : MS} : (RR.bad : RR Bool).wh s1 k = .bad := rfl
theorem whileN_succ {n : Nat} : whileN t s1 (n + 1) ρ = (t ρ).wh s1 (whileN t s1 n) := by
  show (match t ρ with | .ok true ρ1 => (match s1 ρ1 with | .nx ρ2 => whileN t s1 n ρ2 | .cnt ρ2 => whileN t s1 n ρ2 | .brk ρ2 => Out.nx ρ2 | o => o) | .ok false ρ1 => .nx ρ1 | .exc e ρ1 => .exc e ρ1 | .bad => .bad) = _
  cases t ρ with
  | ok x ρ1 =>
    cases x with
    | true =>
      show (match s1 ρ1 with | .nx ρ2 => whileN t s1 n ρ2 | .cnt ρ2 => whileN t s1 n ρ2 | .brk ρ2 => Out.nx ρ2 | o => o) = (s1 ρ1).loop (whileN t s1 n)
      cases s1 ρ1 <;> rfl
    | false => rfl
  | exc _ _ => rfl
  | bad => rfl
end
/-! ### owned lists, comprehensions, chains -/
section
variable {α : Type} {a b c : ME} {ma : MA} {t : MT} {ρ : List D} {d x y : D} {ds es acc : List D} {e : Err} {i : Nat} {f g : D → D → Option Bool}
def asLst : D → Option (List D)
  | .lst ds => some ds
  | _ => none
@[simp] theorem asLst_lst : asLst (.lst ds) = some ds := rfl
@[simp] theorem lstAt_eq : lstAt i ρ = asLst (ρ.getD i .non) := rfl
def Out.app (o : Option (List D)) (i : Nat) (d : D) (ρ : List D) : Out := match o with
  | some ds => if ds.length < 1000000 then .nx (ρ.set i (.lst (ds ++ [d]))) else .bad
  | none => .bad
@[simp] theorem app_some : Out.app (some ds) i d ρ = if ds.length < 1000000 then .nx (ρ.set i (.lst (ds ++ [d]))) else .bad := rfl
def RR.app (o : RR D) (i : Nat) : Out := match o with
  | .ok d ρ1 => Out.app (asLst (ρ1.getD i .non)) i d ρ1
  | .exc e ρ1 => .exc e ρ1
  | .bad => .bad
@[simp] theorem rapp_ok : (RR.ok d ρ).app i = Out.app (asLst (ρ.getD i .non)) i d ρ := rfl
@[simp] theorem rapp_exc : (RR.exc e ρ : RR D).app i = .exc e ρ := rfl
@[simp] theorem rapp_bad : (RR.bad : RR D).app i = .bad := rfl
def Out.app0 (o : Option (List D)) (r : RR D) (i : Nat) : Out := match o with
  | some _ => r.app i
  | none => .bad
@[simp] theorem app0_some {r : RR D} : Out.app0 (some ds) r i = r.app i := rfl
@[simp] theorem mApp_eq : mApp i a ρ = Out.app0 (asLst (ρ.getD i .non)) (a ρ) i := by
  unfold mApp Out.app0
  rw [lstAt_eq]
  cases asLst (ρ.getD i .non) with
  | none => rfl
  | some ds =>
    unfold RR.app Out.app
    cases a ρ with
    | ok d ρ1 => simp only [lstAt_eq] <;> (cases asLst (ρ1.getD i .non) <;> rfl)
    | exc _ _ => rfl
    | bad => rfl
def lenO (o : D) (ρ : List D) : RR D := match o with
  | .lst ds => .ok (.int ds.length) ρ
  | _ => .bad
@[simp] theorem lenO_lst : lenO (.lst ds) ρ = .ok (.int ds.length) ρ := rfl
@[simp] theorem mLenO_eq : mLenO i ρ = lenO (ρ.getD i .non) ρ := rfl
def trO (o : D) (ρ : List D) : RR Bool := match o with
  | .lst ds => .ok (!ds.isEmpty) ρ
  | _ => .bad
@[simp] theorem trO_lst : trO (.lst ds) ρ = .ok (!ds.isEmpty) ρ := rfl
@[simp] theorem mTrO_eq : mTrO i ρ = trO (ρ.getD i .non) ρ := by
  unfold mTrO trO
  rw [lstAt_eq]
  cases ρ.getD i .non <;> rfl
@[simp] theorem mYes_eq : mYes ρ = .ok true ρ := rfl
def RR.lc (o : RR (List D)) (b : MB) (t : MT) (a : ME) (μ : List Mode) : RR D := o.bind fun ds ρ1 => lcL b t a μ ds [] ρ1
@[simp] theorem lc_ok {b : MB} {μ : List Mode} : (RR.ok ds ρ).lc b t a μ = lcL b t a μ ds [] ρ := rfl
@[simp] theorem lc_exc {b : MB} {μ : List Mode} : (RR.exc e ρ : RR (List D)).lc b t a μ = .exc e ρ := rfl
@[simp] theorem lc_bad {b : MB} {μ : List Mode} : (RR.bad : RR (List D)).lc b t a μ = .bad := rfl
@[simp] theorem mLc_eq {b : MB} {μ : List Mode} : mLc ma b t a μ ρ = (ma ρ).lc b t a μ := rfl
@[simp] theorem lcL_nil {b : MB} {μ : List Mode} : lcL b t a μ [] acc ρ = .ok (.lst acc) ρ := rfl
/-- a comprehension over ds: what its turns come to (s: which are taken, v: what is put in) -/
theorem lcL_run {b : MB} {μ : List Mode} (s : D → Bool) (v : D → D) : ∀ (ds acc : List D), (∀ d ∈ ds, ∃ ρ1 ρ2, b d ρ = some ρ1 ∧ t ρ1 = .ok (s d) ρ2 ∧ (s d = false → keep μ ρ2 = ρ) ∧ (s d = true → ∃ ρ3, a ρ2 = .ok (v d) ρ3 ∧ keep μ ρ3 = ρ)) → acc.length + ds.length ≤ 1000000 →
    lcL b t a μ ds acc ρ = .ok (.lst (acc ++ (ds.filter s).map v)) ρ
  | [], acc, _, _ => by simp
  | d :: ds, acc, h, hl => by
    obtain ⟨ρ1, ρ2, h1, h2, h3, h4⟩ := h d List.mem_cons_self
    unfold lcL
    rw [h1]
    simp only [h2]
    cases q : s d with
    | false =>
      simp only
      rw [h3 q, lcL_run s v ds acc (fun d' hd => h d' (List.mem_cons_of_mem _ hd)) (by simp at hl; omega)]
      simp [q]
    | true =>
      obtain ⟨ρ3, h5, h6⟩ := h4 q
      simp only [h5]
      simp only [List.length_cons] at hl
      rw [if_pos (by omega), h6, lcL_run s v ds (acc ++ [v d]) (fun d' hd => h d' (List.mem_cons_of_mem _ hd)) (by simp; omega)]
      simp [q]
/-- .. without a test -/
theorem lcL_map {b : MB} {μ : List Mode} (v : D → D) (ds : List D) (h : ∀ d ∈ ds, ∃ ρ1 ρ3, b d ρ = some ρ1 ∧ a ρ1 = .ok (v d) ρ3 ∧ keep μ ρ3 = ρ) (hl : ds.length ≤ 1000000) :
    lcL b mYes a μ ds [] ρ = .ok (.lst (ds.map v)) ρ := by
  have := lcL_run (t := mYes) (a := a) (b := b) (μ := μ) (ρ := ρ) (fun _ => true) v ds [] (fun d hd => by
    obtain ⟨ρ1, ρ3, h1, h2, h3⟩ := h d hd
    exact ⟨ρ1, ρ1, h1, rfl, (fun z => by cases z), fun _ => ⟨ρ3, h2, h3⟩⟩) (by simpa using hl)
  have e : ds.filter (fun _ => true) = ds := List.filter_eq_self.mpr fun _ _ => rfl
  rw [e] at this
  simpa using this
def RR.sl1 (o : RR D) (f : Option Int → Option Int → D → Option D) (lo hi : MO) : RR D := o.bind fun d ρ1 => (lo ρ1).bind fun l ρ2 => (hi ρ2).bind fun u ρ3 => RR.of (f l u d) ρ3
def RR.sl2 (o : RR (Option Int)) (f : Option Int → Option Int → D → Option D) (d : D) (hi : MO) : RR D := o.bind fun l ρ2 => (hi ρ2).bind fun u ρ3 => RR.of (f l u d) ρ3
def RR.sl3 (o : RR (Option Int)) (f : Option Int → Option Int → D → Option D) (d : D) (l : Option Int) : RR D := o.bind fun u ρ3 => RR.of (f l u d) ρ3
@[simp] theorem sl1_ok {h : Option Int → Option Int → D → Option D} {lo hi : MO} : (RR.ok d ρ).sl1 h lo hi = (lo ρ).sl2 h d hi := rfl
@[simp] theorem sl1_exc {h : Option Int → Option Int → D → Option D} {lo hi : MO} : (RR.exc e ρ : RR D).sl1 h lo hi = .exc e ρ := rfl
@[simp] theorem sl2_ok {h : Option Int → Option Int → D → Option D} {l : Option Int} {hi : MO} : (RR.ok l ρ).sl2 h d hi = (hi ρ).sl3 h d l := rfl
@[simp] theorem sl3_ok {h : Option Int → Option Int → D → Option D} {l u : Option Int} : (RR.ok u ρ).sl3 h d l = RR.of (h l u d) ρ := rfl
@[simp] theorem mSl_eq {h : Option Int → Option Int → D → Option D} {lo hi : MO} : mSl h a lo hi ρ = (a ρ).sl1 h lo hi := rfl
@[simp] theorem mNoPart_eq : mNoPart ρ = .ok none ρ := rfl
def RR.part (o : RR D) : RR (Option Int) := o.bind fun d ρ1 => RR.of (asInt d) ρ1
@[simp] theorem part_ok {k : Int} : (RR.ok (.int k) ρ).part = .ok (some k) ρ := rfl
@[simp] theorem part_exc : (RR.exc e ρ : RR D).part = .exc e ρ := rfl
@[simp] theorem mPart_eq : mPart a ρ = (a ρ).part := rfl
@[simp] theorem fSl_lst {lo hi : Option Int} : fSl lo hi (.lst ds) = some (.lst (cutD ds lo hi)) := rfl
@[simp] theorem fSl_tup {lo hi : Option Int} : fSl lo hi (.tup ds) = some (.tup (cutD ds lo hi)) := rfl
@[simp] theorem fSl_str {lo hi : Option Int} {z : Str} : fSl lo hi (.str z) = if z.length ≤ sizeLine then some (.str (cutS z lo hi)) else none := rfl
@[simp] theorem fSlO_lst {lo hi : Option Int} : fSlO lo hi (.lst ds) = some (.lst (cutD ds lo hi)) := rfl
theorem cutD_to {α : Type} {xs : List α} {k : Nat} : cutD xs none (some (k : Int)) = xs.take k := by
  unfold cutD
  rw [HT.sIx_none, HT.sIx_nat, List.drop_zero, Nat.sub_zero]
  by_cases h : k ≤ xs.length
  · rw [Nat.min_eq_left h]
  · rw [Nat.min_eq_right (by omega), List.take_length, List.take_of_length_le (by omega)]
theorem cutD_from {α : Type} {xs : List α} {k : Nat} : cutD xs (some (k : Int)) none = xs.drop k := by
  unfold cutD
  rw [HT.sIx_none, HT.sIx_nat]
  by_cases h : k ≤ xs.length
  · rw [Nat.min_eq_left h]
    exact List.take_of_length_le (by simp)
  · rw [Nat.min_eq_right (by omega), List.drop_length, List.take_nil, List.drop_eq_nil_of_le (by omega)]
def setO (o : RR D) (i : Nat) (d : D) : Option (List D) := match o with
  | .ok (.int k) ρ1 => (asLst (ρ1.getD i .non)).bind fun ds => (setD ds k d).map fun es => ρ1.set i (.lst es)
  | _ => none
@[simp] theorem setO_ok {k : Int} : setO (.ok (.int k) ρ) i d = (asLst (ρ.getD i .non)).bind fun ds => (setD ds k d).map fun es => ρ.set i (.lst es) := rfl
@[simp] theorem bSetO_eq : bSetO i a d ρ = setO (a ρ) i d := by
  unfold bSetO setO
  cases a ρ with
  | ok y ρ1 =>
    cases y <;> first | rfl | (simp only [lstAt_eq]; cases asLst (ρ1.getD i .non) <;> rfl)
  | exc _ _ => rfl
  | bad => rfl
theorem setD_nat {k : Nat} (h : k < ds.length) : setD ds (k : Int) d = some (ds.set k d) := by
  unfold setD ixN
  simp [h]
def RR.ch1 (o : RR D) (f g : D → D → Option Bool) (b c : ME) : RR Bool := o.bind fun x ρ1 => (b ρ1).bind fun y ρ2 => (RR.of (f x y) ρ2).bind fun k ρ3 => if k = true then (c ρ3).bind fun z ρ4 => RR.of (g y z) ρ4 else .ok false ρ3
def RR.ch2 (o : RR D) (f g : D → D → Option Bool) (x : D) (c : ME) : RR Bool := o.bind fun y ρ2 => (RR.of (f x y) ρ2).bind fun k ρ3 => if k = true then (c ρ3).bind fun z ρ4 => RR.of (g y z) ρ4 else .ok false ρ3
def RR.ch3 (o : RR Bool) (g : D → D → Option Bool) (y : D) (c : ME) : RR Bool := o.bind fun k ρ3 => if k = true then (c ρ3).bind fun z ρ4 => RR.of (g y z) ρ4 else .ok false ρ3
@[simp] theorem ch1_ok : (RR.ok x ρ).ch1 f g b c = (b ρ).ch2 f g x c := rfl
@[simp] theorem ch1_exc : (RR.exc e ρ : RR D).ch1 f g b c = .exc e ρ := rfl
@[simp] theorem ch1_bad : (RR.bad : RR D).ch1 f g b c = .bad := rfl
@[simp] theorem ch2_ok : (RR.ok y ρ).ch2 f g x c = (RR.of (f x y) ρ : RR Bool).ch3 g y c := rfl
@[simp] theorem ch2_exc : (RR.exc e ρ : RR D).ch2 f g x c = .exc e ρ := rfl
@[simp] theorem ch2_bad : (RR.bad : RR D).ch2 f g x c = .bad := rfl
@[simp] theorem ch3_t : (RR.ok true ρ : RR Bool).ch3 g y c = (c ρ).op2 g y := rfl
@[simp] theorem ch3_f : (RR.ok false ρ : RR Bool).ch3 g y c = .ok false ρ := rfl
@[simp] theorem ch3_exc : (RR.exc e ρ : RR Bool).ch3 g y c = .exc e ρ := rfl
@[simp] theorem ch3_bad : (RR.bad : RR Bool).ch3 g y c = .bad := rfl
theorem ch3_ite {p : Bool} : (RR.ok p ρ : RR Bool).ch3 g y c = if p = true then (c ρ).op2 g y else .ok false ρ := by cases p <;> rfl
@[simp] theorem mChain_eq : mChain f g a b c ρ = (a ρ).ch1 f g b c := rfl
@[simp] theorem mChainV_eq : mChainV f g a b c ρ = ((a ρ).ch1 f g b c).bl := rfl
@[simp] theorem rng1_eq {n : Int} : rng1 [.int n] = if -1000000 ≤ n ∧ n ≤ 1000000 then some (ilist 0 n.toNat) else none := rfl
@[simp] theorem rng2_eq {n m : Int} : rng2 [.int n, .int m] = if -1000000 ≤ n ∧ n ≤ 1000000 ∧ -1000000 ≤ m ∧ m ≤ 1000000 then some (ilist n (m - n).toNat) else none := rfl
theorem ilist_from {lo : Int} {n : Nat} : ilist lo n = (List.range' 0 n).map fun (i : Nat) => D.int (lo + (i : Int)) := by
  unfold ilist
  rw [List.range_eq_range']
theorem forL_range_aux {i : Nat} {s1 : MS} (ρ : Nat → List D) : ∀ (n j : Nat), (∀ k, j ≤ k → k < j + n → s1 ((ρ k).set i (.int (k : Int))) = .nx (ρ (k + 1)) ∨ s1 ((ρ k).set i (.int (k : Int))) = .cnt (ρ (k + 1))) →
    forL (bName i) s1 ((List.range' j n).map fun (k : Nat) => D.int (0 + (k : Int))) (ρ j) = .nx (ρ (j + n))
  | 0, j, _ => rfl
  | n + 1, j, h => by
    rw [List.range'_succ, List.map_cons, forL_cons, bName_eq, bindO_some, Int.zero_add]
    have ih := forL_range_aux ρ n (j + 1) fun k h1 h2 => h k (by omega) (by omega)
    rw [show j + 1 + n = j + (n + 1) by omega] at ih
    rcases h j (Nat.le_refl j) (by omega) with e | e
    · rw [e, loop_nx]; exact ih
    · rw [e, loop_cnt]; exact ih
/-- for i in range(n): the slots behind each turn -/
theorem forL_range {i : Nat} {s1 : MS} (ρ : Nat → List D) (n : Nat) (h : ∀ k, k < n → s1 ((ρ k).set i (.int (k : Int))) = .nx (ρ (k + 1)) ∨ s1 ((ρ k).set i (.int (k : Int))) = .cnt (ρ (k + 1))) : forL (bName i) s1 (ilist 0 n) (ρ 0) = .nx (ρ n) := by
  have := forL_range_aux (s1 := s1) (i := i) ρ n 0 fun k _ h2 => h k (by omega)
  rw [Nat.zero_add] at this
  rw [ilist_from]
  exact this
theorem mem_ilist {lo : Int} {n : Nat} {d : D} (h : d ∈ ilist lo n) : ∃ i : Nat, i < n ∧ d = .int (lo + i) := by
  unfold ilist at h
  obtain ⟨i, hi, e⟩ := List.mem_map.mp h
  exact ⟨i, List.mem_range.mp hi, e.symm⟩
end
/-! ### values -/
section
variable {i j : Int} {a b : Str} {p q : Bool} {ds es : List D} {x y : D}
@[simp] theorem fInt_eq {g : Int → Int → Int} : fInt g (.int i) (.int j) = some (.int (g i j)) := rfl
@[simp] theorem fIntC_eq {c : Int → Int → Prop} [∀ i j, Decidable (c i j)] {g : Int → Int → Int} : fIntC c g (.int i) (.int j) = if c i j then some (.int (g i j)) else none := rfl
@[simp] theorem fAdd_int : fAdd (.int i) (.int j) = some (.int (i + j)) := rfl
@[simp] theorem fAdd_str : fAdd (.str a) (.str b) = if a.length + b.length ≤ sizeLine then some (.str (a ++ b)) else none := rfl
@[simp] theorem fAdd_tup : fAdd (.tup ds) (.tup es) = if ds.isEmpty = false ∧ es.isEmpty = false ∧ ds.length + es.length ≤ sizeLine then some (.tup (ds ++ es)) else none := rfl
@[simp] theorem fAdd_lst : fAdd (.lst ds) (.lst es) = if ds.length + es.length ≤ sizeLine then some (.lst (ds ++ es)) else none := rfl
@[simp] theorem fNeg_eq : fNeg (.int i) = some (.int (-i)) := rfl
@[simp] theorem fNotV_eq : fNotV (.bl p) = some (.bl (!p)) := rfl
@[simp] theorem fLt_int : fLt (.int i) (.int j) = some (decide (i < j)) := rfl
@[simp] theorem fLe_int : fLe (.int i) (.int j) = some (decide (i ≤ j)) := rfl
@[simp] theorem fGt_int : fGt (.int i) (.int j) = some (decide (j < i)) := rfl
@[simp] theorem fGe_int : fGe (.int i) (.int j) = some (decide (j ≤ i)) := rfl
@[simp] theorem fLt_str : fLt (.str a) (.str b) = some (decide (a.cps.toList < b.cps.toList)) := rfl
@[simp] theorem fEq_int : fEq (.int i) (.int j) = some (decide (i = j)) := rfl
@[simp] theorem fEq_str : fEq (.str a) (.str b) = some (decide (a = b)) := rfl
@[simp] theorem fEq_bl : fEq (.bl p) (.bl q) = some (decide (p = q)) := rfl
@[simp] theorem fIsB_bl : fIsB (.bl p) (.bl q) = some (decide (p = q)) := rfl
@[simp] theorem fNotB_bl : fNotB (.bl p) (.bl q) = some (!decide (p = q)) := rfl
@[simp] theorem fNe_int : fNe (.int i) (.int j) = some (!decide (i = j)) := rfl
@[simp] theorem fNe_str : fNe (.str a) (.str b) = some (!decide (a = b)) := rfl
@[simp] theorem fNe_bl : fNe (.bl p) (.bl q) = some (!decide (p = q)) := rfl
@[simp] theorem truth_bl : truth (.bl p) = some p := rfl
@[simp] theorem truth_int : truth (.int i) = some (i != 0) := rfl
@[simp] theorem truth_lst : truth (.lst ds) = some (!ds.isEmpty) := rfl
@[simp] theorem truth_scr {ns : List Int} : truth (.scr ns) = some (!ns.isEmpty) := rfl
@[simp] theorem truth_non : truth .non = some false := rfl
@[simp] theorem fLen_lst : fLen [.lst ds] = some (.int ds.length) := rfl
@[simp] theorem fLen_tup : fLen [.tup ds] = some (.int ds.length) := rfl
@[simp] theorem fLen_scr {ns : List Int} : fLen [.scr ns] = some (.int ns.length) := rfl
@[simp] theorem fLen_str : fLen [.str a] = if a.length ≤ sizeLine then some (.int a.length) else none := rfl
@[simp] theorem fAbs_eq : fAbs [.int i] = some (.int i.natAbs) := by
  show some (D.int (if i < 0 then -i else i)) = _
  congr 2
  split <;> omega
@[simp] theorem fIntOf_int : fIntOf [.int i] = some (.int i) := rfl
@[simp] theorem fIntOf_bl : fIntOf [.bl p] = some (.int (if p then 1 else 0)) := rfl
@[simp] theorem fIx_lst : fIx (.lst ds) (.int i) = atI ds i := rfl
@[simp] theorem fIx_tup : fIx (.tup ds) (.int i) = atI ds i := rfl
@[simp] theorem fIx_scr {ns : List Int} : fIx (.scr ns) (.int i) = (atI ns i).map .int := rfl
theorem atI_nat' {α : Type} {xs : List α} {n : Nat} : atI xs (n : Int) = xs[n]? := by
  unfold atI ixN
  by_cases h : (n : Int) < xs.length
  · rw [if_pos (by omega), if_pos h]
    simp
  · rw [if_pos (by omega), if_neg h]
    simp only [Option.bind_none]
    exact (List.getElem?_eq_none (by omega)).symm
@[simp] theorem atI_zero {α : Type} {x : α} {xs : List α} : atI (x :: xs) 0 = some x := atI_nat' (n := 0)
@[simp] theorem atI_one {α : Type} {x y : α} {xs : List α} : atI (x :: y :: xs) 1 = some y := atI_nat' (n := 1)
@[simp] theorem atI_two {α : Type} {x y z : α} {xs : List α} : atI (x :: y :: z :: xs) 2 = some z := atI_nat' (n := 2)
@[simp] theorem atI_three {α : Type} {x y z u : α} {xs : List α} : atI (x :: y :: z :: u :: xs) 3 = some u := atI_nat' (n := 3)
@[simp] theorem atI_four {α : Type} {x y z u v : α} {xs : List α} : atI (x :: y :: z :: u :: v :: xs) 4 = some v := atI_nat' (n := 4)
theorem kit_bool_bool : kitB "bool" "bool" = some true := by decide +kernel
theorem kit_int_bool : kitB "int" "bool" = some false := by decide +kernel
theorem kit_int_int : kitB "int" "int" = some true := by decide +kernel
theorem kit_bool_int : kitB "bool" "int" = some true := by decide +kernel
theorem kit_tuple_tuple : kitB "tuple" "tuple" = some true := by decide +kernel
theorem kit_list_list : kitB "list" "list" = some true := by decide +kernel
theorem kit_non_tuple : kitB "NoneType" "tuple" = some false := by decide +kernel
theorem kit_str_int : kitB "str" "int" = some false := by decide +kernel
theorem kit_non_int : kitB "NoneType" "int" = some false := by decide +kernel
theorem kit_tuple_int : kitB "tuple" "int" = some false := by decide +kernel
theorem kit_list_int : kitB "list" "int" = some false := by decide +kernel
theorem kit_dict_int : kitB "dict" "int" = some false := by decide +kernel
@[simp] theorem isi_bl_bool : fIsi "bool" (.bl p) = some (.bl true) := by unfold fIsi tyName; simp [kit_bool_bool]
@[simp] theorem isi_int_bool : fIsi "bool" (.int i) = some (.bl false) := by unfold fIsi tyName; simp [kit_int_bool]
@[simp] theorem isi_int_int : fIsi "int" (.int i) = some (.bl true) := by unfold fIsi tyName; simp [kit_int_int]
@[simp] theorem isi_bl_int : fIsi "int" (.bl p) = some (.bl true) := by unfold fIsi tyName; simp [kit_bool_int]
@[simp] theorem isi_tup_tuple : fIsi "tuple" (.tup ds) = some (.bl true) := by unfold fIsi tyName; simp [kit_tuple_tuple]
@[simp] theorem isi_lst_list : fIsi "list" (.lst ds) = some (.bl true) := by unfold fIsi tyName; simp [kit_list_list]
@[simp] theorem isi_str_int : fIsi "int" (.str a) = some (.bl false) := by unfold fIsi tyName; simp [kit_str_int]
@[simp] theorem isi_non_int : fIsi "int" .non = some (.bl false) := by unfold fIsi tyName; simp [kit_non_int]
@[simp] theorem isi_tup_int : fIsi "int" (.tup ds) = some (.bl false) := by unfold fIsi tyName; simp [kit_tuple_int]
@[simp] theorem isi_dK_int {kvs : List (Key × D)} : fIsi "int" (.dK kvs) = some (.bl false) := by unfold fIsi tyName; simp [kit_dict_int]
@[simp] theorem isi_lst_int : fIsi "int" (.lst ds) = some (.bl false) := by unfold fIsi tyName; simp [kit_list_int]
end
/-! ### sizes of ints -/
theorem log2_lt {n a : Nat} (h0 : 0 < a) (h : n < 2 ^ a) : n.log2 < a := PySem.Flt.log2_lt_of h0 h
theorem mulx {i j : Int} {a b : Nat} (ha : i.natAbs < 2 ^ a) (hb : j.natAbs < 2 ^ b) (h0 : 0 < a := by decide) (h1 : 0 < b := by decide) (h : a + b ≤ 134000000 := by decide) : CMulX i j := by
  have x := log2_lt h0 ha
  have y := log2_lt h1 hb
  unfold CMulX
  omega
theorem divx {i j : Int} {b : Nat} (h : j ≠ 0) (hb : j.natAbs < 2 ^ b) (h0 : 0 < b := by decide) (h9 : b ≤ 9000 := by decide) : CDivX i j := ⟨h, PyProof.noPylong_of_log2 (Nat.lt_of_lt_of_le (log2_lt h0 hb) h9)⟩
theorem divx2 {i j : Int} (h : j ≠ 0) (hb : i.natAbs < 2 ^ 13500) : CDivX i j := by
  refine ⟨h, ?_⟩
  have hl : i.natAbs.log2 < 13500 := log2_lt (by decide) hb
  have key : ∀ n : Nat, n < 451 → ∀ m : Nat, (decide (m > 300) && decide (n > m + 150)) = false := fun n hn m => by
    by_cases h : m > 300
    · rw [decide_eq_false (show ¬ n > m + 150 by omega), Bool.and_false]
    · rw [decide_eq_false h, Bool.false_and]
  refine key (if i == 0 then 0 else i.natAbs.log2 / 30 + 1) ?_ (if j == 0 then 0 else j.natAbs.log2 / 30 + 1)
  split <;> omega
end MR

set_option Elab.async false
set_option linter.all false
set_option maxRecDepth 100000
/-! RV: mirrors that many laws share (printed by shared.py). -/
namespace RV
open PySem L2 MR
def b__law_cell : MS :=
  (mSeq (mIf (mCmpT fLt (mVar 1) (mCB fLen (mCons (mVar 0) mNil)))
  (mRet (mCB fIntOf (mCons (mOp fIx (mVar 0) (mVar 1)) mNil)))
  (mKeep [.x, .d] mNext))
  (mRet (mOp fAdd (mOp (fIntC CMulX (· * ·)) (mC (.int 13)) (mVar 1)) (mC (.int 2)))))
def m__law_cell : MP := mDef .d 0 b__law_cell
def b__law_number : MS :=
  (mRet (mOp fIx (mLst (mCons (mOp (fInt (· - ·)) (mOp (fIntC CModX Int.fmod) (mOp (fIntC CDivX Int.fdiv) (mVar 0) (mC (.int 4))) (mC (.int 19))) (mC (.int 9))) (mCons (mOp (fInt (· - ·)) (mOp (fIntC CModX Int.fmod) (mOp (fIntC CDivX Int.fdiv) (mVar 0) (mC (.int 4))) (mC (.int 3000))) (mC (.int 1500))) (mCons (mOp fAdd (mOp (fIntC CPow fun i j => i ^ j.toNat) (mC (.int 10)) (mC (.int 14))) (mOp (fIntC CModX Int.fmod) (mOp (fIntC CDivX Int.fdiv) (mVar 0) (mC (.int 4))) (mC (.int 777)))) (mCons (mOp (fInt (· - ·)) (mOp (fInt (· - ·)) (mC (.int 0)) (mOp (fIntC CPow fun i j => i ^ j.toNat) (mC (.int 10)) (mC (.int 14)))) (mOp (fIntC CModX Int.fmod) (mOp (fIntC CDivX Int.fdiv) (mVar 0) (mC (.int 4))) (mC (.int 777)))) mNil))))) (mOp (fIntC CModX Int.fmod) (mVar 0) (mC (.int 4)))))
def m__law_number : MP := mDef .d 0 b__law_number
def b__law_low_L0 : MS :=
  (mPar 2 3 (mVar 3) (mOp (fIntC CModX Int.fmod) (mCB fIntOf (mCons (mVar 2) mNil)) (mVar 3)))
def b__law_low : MS :=
  (mSeq (mAsg 2 (mCB fAbs (mCons (mVar 0) mNil)))
  (mSeq (mAsg 3 (mCB fAbs (mCons (mVar 1) mNil)))
  (mSeq (mWhile (fun ρ => (ρ.getD 3 .non).nat + 1) (mCmpT fGt (mVar 3) (mC (.int 0))) b__law_low_L0)
  (mSeq (mIf (mCmpT fLt (mVar 1) (mC (.int 0)))
  (mRet (mTup (mCons (mOp (fInt (· - ·)) (mC (.int 0)) (mOp (fIntC CDivX Int.fdiv) (mVar 0) (mVar 2))) (mCons (mOp (fInt (· - ·)) (mC (.int 0)) (mOp (fIntC CDivX Int.fdiv) (mVar 1) (mVar 2))) mNil))))
  (mKeep [.d, .d, .d, .x] mNext))
  (mRet (mTup (mCons (mOp (fIntC CDivX Int.fdiv) (mVar 0) (mVar 2)) (mCons (mOp (fIntC CDivX Int.fdiv) (mVar 1) (mVar 2)) mNil))))))))
def m__law_low : MP := mDef .d 2 b__law_low
def b__law_ratio : MS :=
  (mRet (mCall RV.m__law_low [] (mCons (mCall RV.m__law_number [] (mCons (mOp (fIntC CDivX Int.fdiv) (mVar 0) (mC (.int 3))) mNil)) (mCons (mOp fAdd (mC (.int 1)) (mCB fAbs (mCons (mCall RV.m__law_number [] (mCons (mOp (fIntC CDivX Int.fdiv) (mVar 0) (mC (.int 8))) mNil)) mNil))) mNil))))
def m__law_ratio : MP := mDef .d 0 b__law_ratio
def b_is_integer : MS :=
  (mRet (mAndV (mUn (fIsi "int") (mVar 0)) (mUn fNotV (mUn (fIsi "bool") (mVar 0)))))
def m_is_integer : MP := mDef .d 0 b_is_integer
def b_common_divisor_L0 : MS :=
  (mPar 0 1 (mVar 1) (mOp (fIntC CModX Int.fmod) (mVar 0) (mVar 1)))
def b_common_divisor : MS :=
  (mSeq (mWhile (fun ρ => (ρ.getD 1 .non).nat + 1) (mCmpT fNe (mVar 1) (mC (.int 0))) b_common_divisor_L0)
  (mRet (mCB fAbs (mCons (mVar 0) mNil))))
def m_common_divisor : MP := mDef .d 0 b_common_divisor
def b_ratio : MS :=
  (mSeq (mIf (mOr (mNot (mTr (mCall RV.m_is_integer [] (mCons (mVar 0) mNil)))) (mOr (mNot (mTr (mCall RV.m_is_integer [] (mCons (mVar 1) mNil)))) (mCmpT fLt (mVar 1) (mC (.int 1)))))
  (mRaise .ratio (mCons (mC (.str (Str.ofString "ratio"))) mNil))
  mNext)
  (mSeq (mAsg 2 (mCall RV.m_common_divisor [] (mCons (mVar 0) (mCons (mVar 1) mNil))))
  (mRet (mTup (mCons (mOp (fIntC CDivX Int.fdiv) (mVar 0) (mVar 2)) (mCons (mOp (fIntC CDivX Int.fdiv) (mVar 1) (mVar 2)) mNil))))))
def m_ratio : MP := mDef .d 1 b_ratio
def b_over : MS :=
  (mSeq (mIf (mCmpT fEq (mOp fIx (mVar 1) (mC (.int 0))) (mC (.int 0)))
  (mRaise .ratio (mCons (mC (.str (Str.ofString "quotient by 0"))) mNil))
  mNext)
  (mSeq (mAsg 2 (mOp (fIntC CMulX (· * ·)) (mOp fIx (mVar 0) (mC (.int 0))) (mOp fIx (mVar 1) (mC (.int 1)))))
  (mSeq (mAsg 3 (mOp (fIntC CMulX (· * ·)) (mOp fIx (mVar 0) (mC (.int 1))) (mOp fIx (mVar 1) (mC (.int 0)))))
  (mSeq (mIf (mCmpT fLt (mVar 3) (mC (.int 0)))
  (mKeep [.x, .x, .d, .d] (mSeq (mAsg 2 (mUn fNeg (mVar 2)))
  (mAsg 3 (mUn fNeg (mVar 3)))))
  (mKeep [.x, .x, .d, .d] mNext))
  (mRet (mCall RV.m_ratio [] (mCons (mVar 2) (mCons (mVar 3) mNil))))))))
def m_over : MP := mDef .d 2 b_over
def b_sub : MS :=
  (mRet (mCall RV.m_ratio [] (mCons (mOp (fInt (· - ·)) (mOp (fIntC CMulX (· * ·)) (mOp fIx (mVar 0) (mC (.int 0))) (mOp fIx (mVar 1) (mC (.int 1)))) (mOp (fIntC CMulX (· * ·)) (mOp fIx (mVar 1) (mC (.int 0))) (mOp fIx (mVar 0) (mC (.int 1))))) (mCons (mOp (fIntC CMulX (· * ·)) (mOp fIx (mVar 0) (mC (.int 1))) (mOp fIx (mVar 1) (mC (.int 1)))) mNil))))
def m_sub : MP := mDef .d 0 b_sub
def b_add : MS :=
  (mRet (mCall RV.m_ratio [] (mCons (mOp fAdd (mOp (fIntC CMulX (· * ·)) (mOp fIx (mVar 0) (mC (.int 0))) (mOp fIx (mVar 1) (mC (.int 1)))) (mOp (fIntC CMulX (· * ·)) (mOp fIx (mVar 1) (mC (.int 0))) (mOp fIx (mVar 0) (mC (.int 1))))) (mCons (mOp (fIntC CMulX (· * ·)) (mOp fIx (mVar 0) (mC (.int 1))) (mOp fIx (mVar 1) (mC (.int 1)))) mNil))))
def m_add : MP := mDef .d 0 b_add
def b_times : MS :=
  (mRet (mCall RV.m_ratio [] (mCons (mOp (fIntC CMulX (· * ·)) (mOp fIx (mVar 0) (mC (.int 0))) (mOp fIx (mVar 1) (mC (.int 0)))) (mCons (mOp (fIntC CMulX (· * ·)) (mOp fIx (mVar 0) (mC (.int 1))) (mOp fIx (mVar 1) (mC (.int 1)))) mNil))))
def m_times : MP := mDef .d 0 b_times
def b__law_is_ratio_L0 : MS :=
  (mIf (mOr (mNot (mTr (mUn (fIsi "int") (mVar 1)))) (mTr (mUn (fIsi "bool") (mVar 1))))
  (mRet (mC (.bl false)))
  (mKeep [.d, .x] mNext))
def b__law_is_ratio : MS :=
  (mSeq (mIf (mOr (mNot (mTr (mUn (fIsi "tuple") (mVar 0)))) (mCmpT fNe (mCB fLen (mCons (mVar 0) mNil)) (mC (.int 2))))
  (mRet (mC (.bl false)))
  mNext)
  (mSeq (mFor (mItT (mVar 0)) (bName 1) b__law_is_ratio_L0)
  (mRet (mAndV (mCmp fGe (mOp fIx (mVar 0) (mC (.int 1))) (mC (.int 1))) (mCmp fEq (mCall RV.m__law_low [] (mCons (mOp fIx (mVar 0) (mC (.int 0))) (mCons (mOp fIx (mVar 0) (mC (.int 1))) mNil))) (mVar 0))))))
def m__law_is_ratio : MP := mDef .d 1 b__law_is_ratio
def b_less : MS :=
  (mRet (mCmp fLt (mOp (fIntC CMulX (· * ·)) (mOp fIx (mVar 0) (mC (.int 0))) (mOp fIx (mVar 1) (mC (.int 1)))) (mOp (fIntC CMulX (· * ·)) (mOp fIx (mVar 1) (mC (.int 0))) (mOp fIx (mVar 0) (mC (.int 1))))))
def m_less : MP := mDef .d 0 b_less
def b_at_most : MS :=
  (mRet (mCmp fLe (mOp (fIntC CMulX (· * ·)) (mOp fIx (mVar 0) (mC (.int 0))) (mOp fIx (mVar 1) (mC (.int 1)))) (mOp (fIntC CMulX (· * ·)) (mOp fIx (mVar 1) (mC (.int 0))) (mOp fIx (mVar 0) (mC (.int 1))))))
def m_at_most : MP := mDef .d 0 b_at_most
def b_sign : MS :=
  (mRet (mOp (fInt (· - ·)) (mCB fIntOf (mCons (mCmp fGt (mOp fIx (mVar 0) (mC (.int 0))) (mC (.int 0))) mNil)) (mCB fIntOf (mCons (mCmp fLt (mOp fIx (mVar 0) (mC (.int 0))) (mC (.int 0))) mNil))))
def m_sign : MP := mDef .d 0 b_sign
def b__law_small : MS :=
  (mRet (mCall RV.m__law_low [] (mCons (mOp (fInt (· - ·)) (mOp (fIntC CModX Int.fmod) (mVar 0) (mC (.int 13))) (mC (.int 6))) (mCons (mOp fAdd (mC (.int 1)) (mOp (fIntC CModX Int.fmod) (mOp (fIntC CDivX Int.fdiv) (mVar 0) (mC (.int 13))) (mOp fIx (mLst (mCons (mC (.int 1)) (mCons (mC (.int 4)) (mCons (mC (.int 9)) mNil)))) (mOp (fIntC CModX Int.fmod) (mOp (fIntC CDivX Int.fdiv) (mVar 0) (mC (.int 60))) (mC (.int 3)))))) mNil))))
def m__law_small : MP := mDef .d 0 b__law_small
def b_product_L1 : MS :=
  (mKeep [.d, .d, .o, .d, .d, .x, .x] (mAsg 4 (mCall RV.m_add [] (mCons (mVar 4) (mCons (mCall RV.m_times [] (mCons (mVar 5) (mCons (mVar 6) mNil))) mNil)))))
def b_product_L0 : MS :=
  (mKeep [.d, .d, .o, .x, .x, .x, .x] (mSeq (mAsg 4 (mC (.tup [(.int 0), (.int 1)])))
  (mSeq (mFor (mRng zip2 (mCons (mVar 3) (mCons (mVar 1) mNil))) (bTup 2 (bCons (bName 5) (bCons (bName 6) bNil))) b_product_L1)
  (mApp 2 (mVar 4)))))
def b_product : MS :=
  (mSeq (mAsg 2 (mLst mNil))
  (mSeq (mFor (mItL (mVar 0)) (bName 3) b_product_L0)
  (mRetO 2)))
def m_product : MP := mDef .o 5 b_product
def b__law_sum_L0 : MS :=
  (mKeep [.d, .d, .d, .x] (mSeq (mAsg 1 (mOp fAdd (mOp (fIntC CMulX (· * ·)) (mVar 1) (mOp fIx (mVar 3) (mC (.int 1)))) (mOp (fIntC CMulX (· * ·)) (mOp fIx (mVar 3) (mC (.int 0))) (mVar 2))))
  (mAsg 2 (mOp (fIntC CMulX (· * ·)) (mVar 2) (mOp fIx (mVar 3) (mC (.int 1)))))))
def b__law_sum : MS :=
  (mSeq (mAsg 1 (mC (.int 0)))
  (mSeq (mAsg 2 (mC (.int 1)))
  (mSeq (mFor (mItL (mVar 0)) (bName 3) b__law_sum_L0)
  (mRet (mCall RV.m__law_low [] (mCons (mVar 1) (mCons (mVar 2) mNil)))))))
def m__law_sum : MP := mDef .d 3 b__law_sum
def b__law_times : MS :=
  (mRet (mCall RV.m__law_low [] (mCons (mOp (fIntC CMulX (· * ·)) (mOp fIx (mVar 0) (mC (.int 0))) (mOp fIx (mVar 1) (mC (.int 0)))) (mCons (mOp (fIntC CMulX (· * ·)) (mOp fIx (mVar 0) (mC (.int 1))) (mOp fIx (mVar 1) (mC (.int 1)))) mNil))))
def m__law_times : MP := mDef .d 0 b__law_times
def b__law_product_C1e : ME :=
  (mCall RV.m__law_times [] (mCons (mOp fIx (mVar 2) (mVar 3)) (mCons (mOp fIx (mVar 1) (mVar 3)) mNil)))
def b__law_product_C1 : ME :=
  (mLc (mRng rng1 (mCons (mCB fLen (mCons (mVar 1) mNil)) mNil)) (bName 3) mYes b__law_product_C1e [.d, .d, .d, .x])
def b__law_product_C0e : ME :=
  (mCall RV.m__law_sum [] (mCons b__law_product_C1 mNil))
def b__law_product_C0 : ME :=
  (mLc (mItL (mVar 0)) (bName 2) mYes b__law_product_C0e [.d, .d, .x, .x])
def b__law_product : MS :=
  (mRet b__law_product_C0)
def m__law_product : MP := mDef .o 2 b__law_product
def b_size : MS :=
  (mRet (mTup (mCons (mCB fAbs (mCons (mOp fIx (mVar 0) (mC (.int 0))) mNil)) (mCons (mOp fIx (mVar 0) (mC (.int 1))) mNil))))
def m_size : MP := mDef .d 0 b_size
def b_is_dominant_L1 : MS :=
  (mIf (mCmpT fNe (mVar 4) (mVar 1))
  (mKeep [.d, .d, .d, .d, .x, .x] (mAsg 3 (mCall RV.m_add [] (mCons (mVar 3) (mCons (mCall RV.m_size [] (mCons (mVar 5) mNil)) mNil)))))
  (mKeep [.d, .d, .d, .d, .x, .x] mNext))
def b_is_dominant_L0 : MS :=
  (mSeq (mAsg 3 (mC (.tup [(.int 0), (.int 1)])))
  (mSeq (mFor (mRng enum1 (mCons (mVar 2) mNil)) (bTup 2 (bCons (bName 4) (bCons (bName 5) bNil))) b_is_dominant_L1)
  (mIf (mNot (mTr (mCall RV.m_less [] (mCons (mVar 3) (mCons (mCall RV.m_size [] (mCons (mOp fIx (mVar 2) (mVar 1)) mNil)) mNil)))))
  (mRet (mC (.bl false)))
  (mKeep [.d, .x, .x, .x, .x, .x] mNext))))
def b_is_dominant : MS :=
  (mSeq (mFor (mRng enum1 (mCons (mVar 0) mNil)) (bTup 2 (bCons (bName 1) (bCons (bName 2) bNil))) b_is_dominant_L0)
  (mRet (mC (.bl true))))
def m_is_dominant : MP := mDef .d 5 b_is_dominant
def b_without_column_C0e : ME :=
  (mCall RV.m_sub [] (mCons (mVar 4) (mCons (mCall RV.m_times [] (mCons (mVar 3) (mCons (mVar 5) mNil))) mNil)))
def b_without_column_C0 : ME :=
  (mLc (mRng zip2 (mCons (mVar 0) (mCons (mVar 1) mNil))) (bTup 2 (bCons (bName 4) (bCons (bName 5) bNil))) mYes b_without_column_C0e [.d, .d, .d, .d, .x, .x])
def b_without_column : MS :=
  (mSeq (mAsg 3 (mCall RV.m_over [] (mCons (mOp fIx (mVar 0) (mVar 2)) (mCons (mOp fIx (mVar 1) (mVar 2)) mNil))))
  (mRet b_without_column_C0))
def m_without_column : MP := mDef .o 3 b_without_column
def b__law_rows_C0e : ME :=
  (mCall RV.m__law_small [] (mCons (mCall RV.m__law_cell [] (mCons (mVar 0) (mCons (mOp fAdd (mOp fAdd (mVar 1) (mOp (fIntC CMulX (· * ·)) (mVar 2) (mVar 4))) (mVar 5)) mNil))) mNil))
def b__law_rows_C0 : ME :=
  (mLc (mRng rng1 (mCons (mVar 2) mNil)) (bName 5) mYes b__law_rows_C0e [.d, .d, .d, .o, .d, .x])
def b__law_rows_L0 : MS :=
  (mKeep [.d, .d, .d, .o, .x, .x] (mApp 3 b__law_rows_C0))
def b__law_rows : MS :=
  (mSeq (mAsg 3 (mLst mNil))
  (mSeq (mFor (mRng rng1 (mCons (mVar 2) mNil)) (bName 4) b__law_rows_L0)
  (mRetO 3)))
def m__law_rows : MP := mDef .o 3 b__law_rows
def b_solve_C0e : ME :=
  (mOp fAdd (mCB fListOf (mCons (mVar 6) mNil)) (mLst (mCons (mVar 7) mNil)))
def b_solve_C0 : ME :=
  (mLc (mRng zip2 (mCons (mVar 0) (mCons (mVar 1) mNil))) (bTup 2 (bCons (bName 6) (bCons (bName 7) bNil))) mYes b_solve_C0e [.d, .d, .x, .x, .x, .x, .x, .x])
def b_solve_L1 : MS :=
  (mAsg 4 (mOp fAdd (mVar 4) (mC (.int 1))))
def b_solve_L2 : MS :=
  (mIf (mCmpT fNe (mVar 5) (mVar 3))
  (mKeep [.x, .x, .o, .d, .x, .x, .x, .x] (mAsgT (bSetO 2 (mVar 5)) (mCall RV.m_without_column [] (mCons (mIxO 2 (mVar 5)) (mCons (mIxO 2 (mVar 3)) (mCons (mVar 3) mNil))))))
  (mKeep [.x, .x, .o, .d, .x, .x, .x, .x] mNext))
def b_solve_L0 : MS :=
  (mKeep [.x, .x, .o, .x, .x, .x, .x, .x] (mSeq (mAsg 4 (mVar 3))
  (mSeq (mWhile (fun ρ => (ρ.getD 2 .non).size + 1) (mAnd (mCmpT fLt (mVar 4) (mLenO 2)) (mCmpT fEq (mOp fIx (mIxO 2 (mVar 4)) (mVar 3)) (mC (.tup [(.int 0), (.int 1)])))) b_solve_L1)
  (mSeq (mIf (mCmpT fEq (mVar 4) (mLenO 2))
  (mRaise .singular (mCons (mC (.str (Str.ofString "equations"))) mNil))
  mNext)
  (mSeq (mAsgT (bTup 2 (bCons (bSetO 2 (mVar 3)) (bCons (bSetO 2 (mVar 4)) bNil))) (mTup (mCons (mIxO 2 (mVar 4)) (mCons (mIxO 2 (mVar 3)) mNil))))
  (mKeep0 [.x, .x, .o, .d, .x, .x, .x, .x] (mFor (mRng rng1 (mCons (mLenO 2) mNil)) (bName 5) b_solve_L2)))))))
def b_solve_C1e : ME :=
  (mCall RV.m_over [] (mCons (mOp fIx (mVar 6) (mUn fNeg (mC (.int 1)))) (mCons (mOp fIx (mVar 6) (mVar 3)) mNil)))
def b_solve_C1 : ME :=
  (mLc (mRng enum1 (mCons (mVar 2) mNil)) (bTup 2 (bCons (bName 3) (bCons (bName 6) bNil))) mYes b_solve_C1e [.x, .x, .d, .x, .x, .x, .x, .x])
def b_solve : MS :=
  (mSeq (mAsg 2 b_solve_C0)
  (mSeq (mKeep0 [.x, .x, .o, .x, .x, .x, .x, .x] (mFor (mRng rng1 (mCons (mLenO 2) mNil)) (bName 3) b_solve_L0))
  (mRet b_solve_C1)))
def m_solve : MP := mDef .o 6 b_solve
end RV

set_option Elab.async false
set_option linter.all false
set_option maxRecDepth 100000
/-! RM: mirrors of the market and of the drawn market (printed by shared2.py). -/
namespace RM
open PySem L2 MR
def b__law_words_L0 : MS :=
  (mKeep [.d, .d, .d, .x, .x, .x] (mAsg 2 (mOp fAdd (mVar 2) (mOp fIx (mVar 1) (mOp (fIntC CModX Int.fmod) (mOp fAdd (mOp (fIntC CDivX Int.fdiv) (mCB fIntOf (mCons (mVar 0) mNil)) (mOp fAdd (mC (.int 12)) (mVar 3))) (mOp (fIntC CMulX (· * ·)) (mC (.int 5)) (mVar 3))) (mC (.int 26)))))))
def b__law_words_C0e : ME :=
  (mOp fAdd (mOp fAdd (mSl fSl (mVar 2) mNoPart (mPart (mVar 4))) (mOp fIx (mVar 1) (mOp (fIntC CModX Int.fmod) (mOp fAdd (mVar 5) (mOp (fIntC CMulX (· * ·)) (mC (.int 4)) (mVar 3))) (mC (.int 26))))) (mSl fSl (mVar 2) (mPart (mVar 4)) mNoPart))
def b__law_words_C0 : ME :=
  (mLc (mRng rng1 (mCons (mC (.int 6)) mNil)) (bName 3) mYes b__law_words_C0e [.d, .d, .d, .x, .d, .d])
def b__law_words : MS :=
  (mSeq (mAsg 1 (mC (.str (Str.ofString "abcdefghijklmnopqrstuvwxyz"))))
  (mSeq (mAsg 2 (mC (.str (Str.ofString ""))))
  (mSeq (mFor (mRng rng1 (mCons (mOp (fIntC CModX Int.fmod) (mCB fIntOf (mCons (mVar 0) mNil)) (mC (.int 12))) mNil)) (bName 3) b__law_words_L0)
  (mSeq (mAsg 4 (mOp (fIntC CModX Int.fmod) (mOp (fIntC CDivX Int.fdiv) (mCB fIntOf (mCons (mVar 0) mNil)) (mC (.int 7))) (mOp fAdd (mCB fLen (mCons (mVar 2) mNil)) (mC (.int 1)))))
  (mSeq (mAsg 5 (mOp (fIntC CModX Int.fmod) (mOp (fIntC CDivX Int.fdiv) (mCB fIntOf (mCons (mVar 0) mNil)) (mC (.int 100))) (mC (.int 26))))
  (mRet (mCB fSorted (mCons b__law_words_C0 mNil))))))))
def m__law_words : MP := mDef .o 5 b__law_words
def b__law_cell : MS :=
  (mSeq (mIf (mCmpT fLt (mVar 1) (mCB fLen (mCons (mVar 0) mNil)))
  (mRet (mCB fIntOf (mCons (mOp fIx (mVar 0) (mVar 1)) mNil)))
  (mKeep [.x, .d] mNext))
  (mRet (mOp fAdd (mOp (fIntC CMulX (· * ·)) (mC (.int 11)) (mVar 1)) (mC (.int 5)))))
def m__law_cell : MP := mDef .d 0 b__law_cell
def b__law_names : MS :=
  (mRet (mSl fSl (mCall RM.m__law_words [] (mCons (mCall RM.m__law_cell [] (mCons (mVar 0) (mCons (mC (.int 30)) mNil))) mNil)) mNoPart (mPart (mOp fAdd (mC (.int 1)) (mOp (fIntC CModX Int.fmod) (mCall RM.m__law_cell [] (mCons (mVar 0) (mCons (mC (.int 0)) mNil))) (mC (.int 6)))))))
def m__law_names : MP := mDef .d 0 b__law_names
def b__law_ratio_L0 : MS :=
  (mPar 2 3 (mVar 3) (mOp (fIntC CModX Int.fmod) (mCB fIntOf (mCons (mVar 2) mNil)) (mVar 3)))
def b__law_ratio : MS :=
  (mSeq (mAsg 2 (mCB fAbs (mCons (mVar 0) mNil)))
  (mSeq (mAsg 3 (mCB fAbs (mCons (mVar 1) mNil)))
  (mSeq (mWhile (fun ρ => (ρ.getD 3 .non).nat + 1) (mCmpT fGt (mVar 3) (mC (.int 0))) b__law_ratio_L0)
  (mSeq (mIf (mCmpT fLt (mVar 1) (mC (.int 0)))
  (mKeep [.d, .d, .d, .x] (mAsg 2 (mOp (fInt (· - ·)) (mC (.int 0)) (mVar 2))))
  (mKeep [.d, .d, .d, .x] mNext))
  (mRet (mTup (mCons (mOp (fIntC CDivX Int.fdiv) (mVar 0) (mVar 2)) (mCons (mOp (fIntC CDivX Int.fdiv) (mVar 1) (mVar 2)) mNil))))))))
def m__law_ratio : MP := mDef .d 2 b__law_ratio
def b__law_rivalries_L1 : MS :=
  (mSeq (mAsg 5 (mOp (fIntC CDivX Int.fdiv) (mCall RM.m__law_cell [] (mCons (mVar 0) (mCons (mOp fAdd (mC (.int 1)) (mVar 3)) mNil))) (mOp fAdd (mC (.int 1)) (mOp (fIntC CMulX (· * ·)) (mC (.int 3)) (mVar 4)))))
  (mIf (mCmpT fNe (mOp (fIntC CModX Int.fmod) (mVar 5) (mC (.int 3))) (mC (.int 0)))
  (mKeep [.d, .d, .o, .d, .x, .x] (mApp 2 (mTup (mCons (mOp fIx (mVar 1) (mVar 3)) (mCons (mOp fIx (mVar 1) (mVar 4)) (mCons (mCall RM.m__law_ratio [] (mCons (mOp fAdd (mC (.int 1)) (mOp (fIntC CModX Int.fmod) (mOp (fIntC CDivX Int.fdiv) (mVar 5) (mC (.int 3))) (mC (.int 6)))) (mCons (mOp fAdd (mC (.int 1)) (mOp (fIntC CModX Int.fmod) (mOp (fIntC CDivX Int.fdiv) (mVar 5) (mC (.int 18))) (mC (.int 3)))) mNil))) mNil))))))
  (mKeep [.d, .d, .o, .d, .x, .x] mNext)))
def b__law_rivalries_L0 : MS :=
  (mKeep [.d, .d, .o, .x, .x, .x] (mFor (mRng rng2 (mCons (mOp fAdd (mVar 3) (mC (.int 1))) (mCons (mCB fLen (mCons (mVar 1) mNil)) mNil))) (bName 4) b__law_rivalries_L1))
def b__law_rivalries : MS :=
  (mSeq (mAsg 1 (mCall RM.m__law_names [] (mCons (mVar 0) mNil)))
  (mSeq (mAsg 2 (mLst mNil))
  (mSeq (mFor (mRng rng1 (mCons (mCB fLen (mCons (mVar 1) mNil)) mNil)) (bName 3) b__law_rivalries_L0)
  (mRetO 2))))
def m__law_rivalries : MP := mDef .o 5 b__law_rivalries
def b__law_add : MS :=
  (mRet (mCall RM.m__law_ratio [] (mCons (mOp fAdd (mOp (fIntC CMulX (· * ·)) (mOp fIx (mVar 0) (mC (.int 0))) (mOp fIx (mVar 1) (mC (.int 1)))) (mOp (fIntC CMulX (· * ·)) (mOp fIx (mVar 1) (mC (.int 0))) (mOp fIx (mVar 0) (mC (.int 1))))) (mCons (mOp (fIntC CMulX (· * ·)) (mOp fIx (mVar 0) (mC (.int 1))) (mOp fIx (mVar 1) (mC (.int 1)))) mNil))))
def m__law_add : MP := mDef .d 0 b__law_add
def b__law_owners : MS :=
  (mRet (mSl fSl (mCall RM.m__law_words [] (mCons (mCall RM.m__law_cell [] (mCons (mVar 0) (mCons (mC (.int 31)) mNil))) mNil)) mNoPart (mPart (mC (.int 4)))))
def m__law_owners : MP := mDef .d 0 b__law_owners
def b__law_products_L1 : MS :=
  (mIf (mCmpT fIn (mOp fIx (mVar 1) (mVar 3)) (mTup (mCons (mVar 6) (mCons (mVar 7) mNil))))
  (mKeep [.d, .d, .o, .d, .d, .d, .x, .x, .x, .x, .x, .x] (mAsg 5 (mCall RM.m__law_add [] (mCons (mVar 5) (mCons (mVar 8) mNil)))))
  (mKeep [.d, .d, .o, .d, .d, .d, .x, .x, .x, .x, .x, .x] mNext))
def b__law_products_L0 : MS :=
  (mKeep [.d, .d, .o, .x, .x, .x, .x, .x, .x, .x, .x, .x] (mSeq (mAsg 4 (mCall RM.m__law_cell [] (mCons (mVar 0) (mCons (mOp fAdd (mC (.int 6)) (mVar 3)) mNil))))
  (mSeq (mAsg 5 (mTup (mCons (mC (.int 0)) (mCons (mC (.int 1)) mNil))))
  (mSeq (mFor (mItL (mCall RM.m__law_rivalries [] (mCons (mVar 0) mNil))) (bTup 3 (bCons (bName 6) (bCons (bName 7) (bCons (bName 8) bNil)))) b__law_products_L1)
  (mSeq (mAsg 9 (mCall RM.m__law_add [] (mCons (mVar 5) (mCons (mCall RM.m__law_ratio [] (mCons (mOp fAdd (mC (.int 1)) (mOp (fIntC CModX Int.fmod) (mVar 4) (mC (.int 5)))) (mCons (mOp fAdd (mC (.int 1)) (mOp (fIntC CModX Int.fmod) (mOp (fIntC CDivX Int.fdiv) (mVar 4) (mC (.int 5))) (mC (.int 3)))) mNil))) mNil))))
  (mSeq (mAsg 10 (mOp fIx (mCall RM.m__law_owners [] (mCons (mVar 0) mNil)) (mOp (fIntC CModX Int.fmod) (mOp (fIntC CDivX Int.fdiv) (mVar 4) (mC (.int 15))) (mC (.int 4)))))
  (mSeq (mAsg 11 (mCall RM.m__law_ratio [] (mCons (mOp (fIntC CModX Int.fmod) (mOp (fIntC CDivX Int.fdiv) (mVar 4) (mC (.int 60))) (mC (.int 9))) (mCons (mOp fAdd (mC (.int 1)) (mOp (fIntC CModX Int.fmod) (mOp (fIntC CDivX Int.fdiv) (mVar 4) (mC (.int 540))) (mC (.int 2)))) mNil))))
  (mApp 2 (mTup (mCons (mOp fIx (mVar 1) (mVar 3)) (mCons (mVar 10) (mCons (mCall RM.m__law_ratio [] (mCons (mOp fAdd (mC (.int 20)) (mOp (fIntC CModX Int.fmod) (mOp (fIntC CDivX Int.fdiv) (mVar 4) (mC (.int 7))) (mC (.int 90)))) (mCons (mOp fAdd (mC (.int 1)) (mOp (fIntC CModX Int.fmod) (mOp (fIntC CDivX Int.fdiv) (mVar 4) (mC (.int 11))) (mC (.int 4)))) mNil))) (mCons (mVar 9) (mCons (mVar 11) mNil))))))))))))))
def b__law_products : MS :=
  (mSeq (mAsg 1 (mCall RM.m__law_names [] (mCons (mVar 0) mNil)))
  (mSeq (mAsg 2 (mLst mNil))
  (mSeq (mFor (mRng rng1 (mCons (mCB fLen (mCons (mVar 1) mNil)) mNil)) (bName 3) b__law_products_L0)
  (mRetO 2))))
def m__law_products : MP := mDef .o 11 b__law_products
def b_is_name_L0 : MS :=
  (mIf (mCmpT fNotIn (mVar 1) (mC (.str (Str.ofString "abcdefghijklmnopqrstuvwxyz"))))
  (mRet (mC (.bl false)))
  (mKeep [.d, .x] mNext))
def b_is_name : MS :=
  (mSeq (mFor (mItS (mVar 0)) (bName 1) b_is_name_L0)
  (mRet (mChainV fLe fLe (mC (.int 1)) (mCB fLen (mCons (mVar 0) mNil)) (mC (.int 12)))))
def m_is_name : MP := mDef .d 1 b_is_name
def bB_Market__check_products_0_L0 : MS :=
  (mKeep [.s 0 (.i 0 .nil), .d, .o, .x, .x, .x, .x, .x] (mSeq (mIf (mOr (mNot (mTr (mCall RM.m_is_name [] (mCons (mVar 3) mNil)))) (mNot (mTr (mCall RM.m_is_name [] (mCons (mVar 4) mNil)))))
  (mRaise .market (mCons (mC (.str (Str.ofString "name"))) mNil))
  (mKeep [.s 0 (.i 0 .nil), .d, .o, .d, .x, .d, .d, .d] mNext))
  (mSeq (mIf (mPInL (mVar 3) (plW 2 (.l (.all .d))))
  (mRaise .dup (mCons (mVar 3) mNil))
  mNext)
  (mSeq (mIf (mOr (mNot (mTr (mCall RV.m_less [] (mCons (mC (.tup [(.int 0), (.int 1)])) (mCons (mVar 5) mNil))))) (mOr (mNot (mTr (mCall RV.m_less [] (mCons (mC (.tup [(.int 0), (.int 1)])) (mCons (mVar 6) mNil))))) (mTr (mCall RV.m_less [] (mCons (mVar 7) (mCons (mC (.tup [(.int 0), (.int 1)])) mNil))))))
  (mRaise .market (mCons (mVar 3) mNil))
  (mKeep [.s 0 (.i 0 .nil), .d, .o, .d, .x, .x, .x, .x] mNext))
  (mApp 2 (mVar 3))))))
def bB_Market__check_products_0 : MS :=
  (mSeq (mIf (mNot (mChain fLe fLe (mC (.int 1)) (mCB fLen (mCons (mVar 1) mNil)) (mC (.int 6))))
  (mRaise .market (mCons (mC (.str (Str.ofString "number"))) mNil))
  mNext)
  (mSeq (mAsg 2 (mLst mNil))
  (mFor (mItL (mVar 1)) (bTup 5 (bCons (bName 3) (bCons (bName 4) (bCons (bName 5) (bCons (bName 6) (bCons (bName 7) bNil)))))) bB_Market__check_products_0_L0)))
def mB_Market__check_products_0 : MPB := mDefB .d 6 bB_Market__check_products_0
def bB_Market_names_C0e : ME :=
  (mOp fIx (mVar 1) (mC (.int 0)))
def bB_Market_names_C0 : ME :=
  (mLc (mItL (mKidD 0 (.i 0 (.cons .d (.cons .dt .nil))) "products" 0)) (bName 1) mYes bB_Market_names_C0e [.s 0 (.i 0 (.cons .d (.cons .dt .nil))), .x])
def bB_Market_names : MS :=
  (mRet bB_Market_names_C0)
def mB_Market_names : MPB := mDefB .o 1 bB_Market_names
def bB_Market__add_rivalry_L0 : MS :=
  (mIf (mCmpT fNotIn (mVar 4) (mMethB 0 (.i 0 (.cons .d (.cons .dt .nil))) "names" RM.mB_Market_names [] mNil))
  (mRaise .unknown (mCons (mVar 4) mNil))
  (mKeep [.s 0 (.i 0 (.cons .d (.cons .dt .nil))), .d, .d, .d, .x] mNext))
def bB_Market__add_rivalry : MS :=
  (mSeq (mFor (mItT (mTup (mCons (mVar 1) (mCons (mVar 2) mNil)))) (bName 4) bB_Market__add_rivalry_L0)
  (mSeq (mIf (mOr (mCmpT fEq (mVar 1) (mVar 2)) (mNot (mTr (mCall RV.m_less [] (mCons (mC (.tup [(.int 0), (.int 1)])) (mCons (mVar 3) mNil))))))
  (mRaise .market (mCons (mC (.str (Str.ofString "rivalry"))) mNil))
  mNext)
  (mSeq (mIf (mPIn (mTup (mCons (mVar 1) (mCons (mVar 2) mNil))) (plK 0 (.i 0 (.cons .d (.cons .dt .nil))) "_crosses" 1))
  (mRaise .dup (mCons (mVar 1) mNil))
  mNext)
  (mSeq (mPPut (plK 0 (.i 0 (.cons .d (.cons .dt .nil))) "_crosses" 1) (mTup (mCons (mVar 1) (mCons (mVar 2) mNil))) (mVar 3))
  (mPPut (plK 0 (.i 0 (.cons .d (.cons .dt .nil))) "_crosses" 1) (mTup (mCons (mVar 2) (mCons (mVar 1) mNil))) (mVar 3))))))
def mB_Market__add_rivalry : MPB := mDefB .d 1 bB_Market__add_rivalry
def bB_Market_cross : MS :=
  (mRet (mPGet2 (plK 0 (.i 0 (.cons .d (.cons .dt .nil))) "_crosses" 1) (mTup (mCons (mVar 1) (mCons (mVar 2) mNil))) (mC (.tup [(.int 0), (.int 1)]))))
def mB_Market_cross : MPB := mDefB .d 0 bB_Market_cross
def bI_Market___init___L0 : MS :=
  (mKeep [.s 0 (.i 0 (.cons .d (.cons .dt .nil))), .x, .d, .x, .x, .x, .x, .x, .x, .x, .x, .x] (mDrop (mMethB 0 (.i 0 (.cons .d (.cons .dt .nil))) "_add_rivalry" RM.mB_Market__add_rivalry [] (mCons (mVar 3) (mCons (mVar 4) (mCons (mVar 5) mNil))))))
def bI_Market___init___L2 : MS :=
  (mKeep [.s 0 (.i 0 (.cons .d (.cons .dt .nil))), .x, .x, .x, .x, .x, .d, .x, .x, .d, .x, .d] (mAsg 11 (mCall RV.m_add [] (mCons (mVar 11) (mCons (mMethB 0 (.i 0 (.cons .d (.cons .dt .nil))) "cross" RM.mB_Market_cross [] (mCons (mVar 6) (mCons (mVar 4) mNil))) mNil)))))
def bI_Market___init___L1 : MS :=
  (mSeq (mAsg 11 (mC (.tup [(.int 0), (.int 1)])))
  (mSeq (mKeep0 [.s 0 (.i 0 (.cons .d (.cons .dt .nil))), .x, .x, .x, .x, .x, .d, .x, .x, .d, .x, .d] (mFor (mItL (mMethB 0 (.i 0 (.cons .d (.cons .dt .nil))) "names" RM.mB_Market_names [] mNil)) (bName 4) bI_Market___init___L2))
  (mIf (mNot (mTr (mCall RV.m_less [] (mCons (mVar 11) (mCons (mVar 9) mNil)))))
  (mRaise .market (mCons (mVar 6) mNil))
  (mKeep [.s 0 (.i 0 (.cons .d (.cons .dt .nil))), .x, .x, .x, .x, .x, .x, .x, .x, .x, .x, .x] mNext))))
def bI_Market___init__ : MS :=
  (mSeq (mDrop (mMethB 0 (.i 0 .nil) "_check_products" RM.mB_Market__check_products_0 [] (mCons (mVar 1) mNil)))
  (mSeq (mFldNew 0 0 "products" .d (mCB fSorted (mCons (mVar 1) mNil)))
  (mSeq (mFldNew 0 0 "_crosses" .dt (mC (.dT [])))
  (mSeq (mKeep0 [.s 0 (.i 0 (.cons .d (.cons .dt .nil))), .x, .d, .x, .x, .x, .x, .x, .x, .x, .x, .x] (mFor (mItL (mVar 2)) (bTup 3 (bCons (bName 3) (bCons (bName 4) (bCons (bName 5) bNil)))) bI_Market___init___L0))
  (mKeep0 [.s 0 (.i 0 (.cons .d (.cons .dt .nil))), .x, .x, .x, .x, .x, .x, .x, .x, .x, .x, .x] (mFor (mItL (mKidD 0 (.i 0 (.cons .d (.cons .dt .nil))) "products" 0)) (bTup 5 (bCons (bName 6) (bCons (bName 7) (bCons (bName 8) (bCons (bName 9) (bCons (bName 10) bNil)))))) bI_Market___init___L1))))))
def mI_Market___init__ : MPB := mDefI 9 bI_Market___init__
def b_Market_cross : MS :=
  (mRet (mDGet2 (mUn (fFld 0 "_crosses") (mVar 0)) (mTup (mCons (mVar 1) (mCons (mVar 2) mNil))) (mC (.tup [(.int 0), (.int 1)]))))
def m_Market_cross : MP := mDef .d 0 b_Market_cross
def b_equations_L1 : MS :=
  (mSeq (mAsg 15 (mMeth 0 "cross" RM.m_Market_cross [] (mVar 0) (mCons (mVar 3) (mCons (mVar 10) mNil))))
  (mIf (mCmpT fEq (mVar 10) (mVar 3))
  (mKeep [.d, .o, .o, .d, .d, .x, .d, .x, .o, .d, .x, .x, .x, .x, .x, .x] (mApp 8 (mCall RV.m_times [] (mCons (mC (.tup [(.int 2), (.int 1)])) (mCons (mVar 6) mNil)))))
  (mIf (mCmpT fEq (mVar 11) (mVar 4))
  (mKeep [.d, .o, .o, .d, .d, .x, .d, .x, .o, .d, .x, .x, .x, .x, .x, .x] (mSeq (mApp 8 (mCall RV.m_sub [] (mCons (mC (.tup [(.int 0), (.int 1)])) (mCons (mCall RV.m_times [] (mCons (mC (.tup [(.int 2), (.int 1)])) (mCons (mVar 15) mNil))) mNil))))
  (mAsg 9 (mCall RV.m_sub [] (mCons (mVar 9) (mCons (mCall RV.m_times [] (mCons (mVar 15) (mCons (mVar 14) mNil))) mNil))))))
  (mKeep [.d, .o, .o, .d, .d, .x, .d, .x, .o, .d, .x, .x, .x, .x, .x, .x] (mApp 8 (mCall RV.m_sub [] (mCons (mC (.tup [(.int 0), (.int 1)])) (mCons (mVar 15) mNil))))))))
def b_equations_L0 : MS :=
  (mKeep [.d, .o, .o, .x, .x, .x, .x, .x, .x, .x, .x, .x, .x, .x, .x, .x] (mSeq (mAsg 8 (mLst mNil))
  (mSeq (mAsg 9 (mCall RV.m_add [] (mCons (mVar 5) (mCons (mCall RV.m_times [] (mCons (mVar 6) (mCons (mVar 7) mNil))) mNil))))
  (mSeq (mKeep0 [.d, .o, .o, .d, .d, .x, .d, .x, .o, .d, .x, .x, .x, .x, .x, .x] (mFor (mItL (mUn (fFld 0 "products") (mVar 0))) (bTup 5 (bCons (bName 10) (bCons (bName 11) (bCons (bName 12) (bCons (bName 13) (bCons (bName 14) bNil)))))) b_equations_L1))
  (mSeq (mApp 1 (mVar 8))
  (mApp 2 (mVar 9)))))))
def b_equations : MS :=
  (mSeq (mAsg 1 (mLst mNil))
  (mSeq (mAsg 2 (mLst mNil))
  (mSeq (mFor (mItL (mUn (fFld 0 "products") (mVar 0))) (bTup 5 (bCons (bName 3) (bCons (bName 4) (bCons (bName 5) (bCons (bName 6) (bCons (bName 7) bNil)))))) b_equations_L0)
  (mRet (mTup (mCons (mVar 1) (mCons (mVar 2) mNil)))))))
def m_equations : MP := mDef .d 15 b_equations
def b_equilibrium : MS :=
  (mSeq (mAsgT (bTup 2 (bCons (bName 1) (bCons (bName 2) bNil))) (mCall RM.m_equations [] (mCons (mVar 0) mNil)))
  (mRet (mCall RV.m_solve [] (mCons (mVar 1) (mCons (mVar 2) mNil)))))
def m_equilibrium : MP := mDef .o 2 b_equilibrium
def b_Market_owners_L0 : MS :=
  (mIf (mPNotInL (mOp fIx (mVar 2) (mC (.int 1))) (plW 1 (.l (.all .d))))
  (mKeep [.d, .o, .x] (mApp 1 (mOp fIx (mVar 2) (mC (.int 1)))))
  (mKeep [.d, .o, .x] mNext))
def b_Market_owners : MS :=
  (mSeq (mAsg 1 (mLst mNil))
  (mSeq (mFor (mItL (mUn (fFld 0 "products") (mVar 0))) (bName 2) b_Market_owners_L0)
  (mRet (mCB fSorted (mCons (mVar 1) mNil)))))
def m_Market_owners : MP := mDef .o 2 b_Market_owners
def b_Market_names_C0e : ME :=
  (mOp fIx (mVar 1) (mC (.int 0)))
def b_Market_names_C0 : ME :=
  (mLc (mItL (mUn (fFld 0 "products") (mVar 0))) (bName 1) mYes b_Market_names_C0e [.d, .x])
def b_Market_names : MS :=
  (mRet b_Market_names_C0)
def m_Market_names : MP := mDef .o 1 b_Market_names
def b_Market_demands_L1 : MS :=
  (mKeep [.d, .d, .d, .o, .x, .d, .x, .x, .x, .x, .d, .x, .x] (mAsg 10 (mCall RV.m_add [] (mCons (mVar 10) (mCons (mCall RV.m_times [] (mCons (mMeth 0 "cross" RM.m_Market_cross [] (mVar 0) (mCons (mVar 5) (mCons (mVar 11) mNil))) (mCons (mVar 12) mNil))) mNil)))))
def b_Market_demands_L0 : MS :=
  (mKeep [.d, .d, .d, .o, .x, .x, .x, .x, .x, .x, .x, .x, .x] (mSeq (mAsg 10 (mCall RV.m_sub [] (mCons (mVar 7) (mCons (mCall RV.m_times [] (mCons (mVar 8) (mCons (mOp fIx (mVar 1) (mVar 4)) mNil))) mNil))))
  (mSeq (mKeep0 [.d, .d, .d, .o, .x, .d, .x, .x, .x, .x, .d, .x, .x] (mFor (mRng zip2 (mCons (mVar 2) (mCons (mVar 1) mNil))) (bTup 2 (bCons (bName 11) (bCons (bName 12) bNil))) b_Market_demands_L1))
  (mApp 3 (mVar 10)))))
def b_Market_demands : MS :=
  (mSeq (mAsg 2 (mMeth 0 "names" RM.m_Market_names [] (mVar 0) mNil))
  (mSeq (mAsg 3 (mLst mNil))
  (mSeq (mFor (mRng enum1 (mCons (mUn (fFld 0 "products") (mVar 0)) mNil)) (bTup 2 (bCons (bName 4) (bCons (bTup 5 (bCons (bName 5) (bCons (bName 6) (bCons (bName 7) (bCons (bName 8) (bCons (bName 9) bNil)))))) bNil))) b_Market_demands_L0)
  (mRetO 3))))
def m_Market_demands : MP := mDef .o 11 b_Market_demands
def b_profit_L0 : MS :=
  (mIf (mCmpT fEq (mOp fIx (mVar 6) (mC (.int 1))) (mVar 1))
  (mKeep [.d, .d, .d, .d, .d, .x, .x] (mAsg 3 (mCall RV.m_add [] (mCons (mVar 3) (mCons (mCall RV.m_times [] (mCons (mCall RV.m_sub [] (mCons (mOp fIx (mVar 2) (mVar 5)) (mCons (mOp fIx (mVar 6) (mC (.int 4))) mNil))) (mCons (mOp fIx (mVar 4) (mVar 5)) mNil))) mNil)))))
  (mKeep [.d, .d, .d, .d, .d, .x, .x] mNext))
def b_profit : MS :=
  (mSeq (mIf (mCmpT fNotIn (mVar 1) (mMeth 0 "owners" RM.m_Market_owners [] (mVar 0) mNil))
  (mRaise .unknown (mCons (mVar 1) mNil))
  mNext)
  (mSeq (mAsg 3 (mC (.tup [(.int 0), (.int 1)])))
  (mSeq (mAsg 4 (mMeth 0 "demands" RM.m_Market_demands [] (mVar 0) (mCons (mVar 2) mNil)))
  (mSeq (mFor (mRng enum1 (mCons (mUn (fFld 0 "products") (mVar 0)) mNil)) (bTup 2 (bCons (bName 5) (bCons (bName 6) bNil))) b_profit_L0)
  (mRet (mVar 3))))))
def m_profit : MP := mDef .d 4 b_profit
def b__law_sub : MS :=
  (mRet (mCall RM.m__law_ratio [] (mCons (mOp (fInt (· - ·)) (mOp (fIntC CMulX (· * ·)) (mOp fIx (mVar 0) (mC (.int 0))) (mOp fIx (mVar 1) (mC (.int 1)))) (mOp (fIntC CMulX (· * ·)) (mOp fIx (mVar 1) (mC (.int 0))) (mOp fIx (mVar 0) (mC (.int 1))))) (mCons (mOp (fIntC CMulX (· * ·)) (mOp fIx (mVar 0) (mC (.int 1))) (mOp fIx (mVar 1) (mC (.int 1)))) mNil))))
def m__law_sub : MP := mDef .d 0 b__law_sub
def b__law_times : MS :=
  (mRet (mCall RM.m__law_ratio [] (mCons (mOp (fIntC CMulX (· * ·)) (mOp fIx (mVar 0) (mC (.int 0))) (mOp fIx (mVar 1) (mC (.int 0)))) (mCons (mOp (fIntC CMulX (· * ·)) (mOp fIx (mVar 0) (mC (.int 1))) (mOp fIx (mVar 1) (mC (.int 1)))) mNil))))
def m__law_times : MP := mDef .d 0 b__law_times
def b__law_cross_L0 : MS :=
  (mIf (mOr (mCmpT fEq (mTup (mCons (mVar 3) (mCons (mVar 4) mNil))) (mTup (mCons (mVar 1) (mCons (mVar 2) mNil)))) (mCmpT fEq (mTup (mCons (mVar 4) (mCons (mVar 3) mNil))) (mTup (mCons (mVar 1) (mCons (mVar 2) mNil)))))
  (mRet (mVar 5))
  (mKeep [.d, .d, .d, .x, .x, .x] mNext))
def b__law_cross : MS :=
  (mSeq (mFor (mItL (mVar 0)) (bTup 3 (bCons (bName 3) (bCons (bName 4) (bCons (bName 5) bNil)))) b__law_cross_L0)
  (mRet (mTup (mCons (mC (.int 0)) (mCons (mC (.int 1)) mNil)))))
def m__law_cross : MP := mDef .d 3 b__law_cross
def b__law_demands_L1 : MS :=
  (mIf (mCmpT fNe (mVar 6) (mVar 4))
  (mKeep [.d, .d, .d, .o, .d, .d, .x, .x] (mSeq (mAsg 7 (mCall RM.m__law_cross [] (mCons (mVar 1) (mCons (mOp fIx (mOp fIx (mVar 0) (mVar 4)) (mC (.int 0))) (mCons (mOp fIx (mOp fIx (mVar 0) (mVar 6)) (mC (.int 0))) mNil)))))
  (mAsg 5 (mCall RM.m__law_add [] (mCons (mVar 5) (mCons (mCall RM.m__law_times [] (mCons (mVar 7) (mCons (mOp fIx (mVar 2) (mVar 6)) mNil))) mNil))))))
  (mKeep [.d, .d, .d, .o, .d, .d, .x, .x] mNext))
def b__law_demands_L0 : MS :=
  (mKeep [.d, .d, .d, .o, .x, .x, .x, .x] (mSeq (mAsg 5 (mCall RM.m__law_sub [] (mCons (mOp fIx (mOp fIx (mVar 0) (mVar 4)) (mC (.int 2))) (mCons (mCall RM.m__law_times [] (mCons (mOp fIx (mOp fIx (mVar 0) (mVar 4)) (mC (.int 3))) (mCons (mOp fIx (mVar 2) (mVar 4)) mNil))) mNil))))
  (mSeq (mFor (mRng rng1 (mCons (mCB fLen (mCons (mVar 0) mNil)) mNil)) (bName 6) b__law_demands_L1)
  (mApp 3 (mVar 5)))))
def b__law_demands : MS :=
  (mSeq (mAsg 3 (mLst mNil))
  (mSeq (mFor (mRng rng1 (mCons (mCB fLen (mCons (mVar 0) mNil)) mNil)) (bName 4) b__law_demands_L0)
  (mRetO 3)))
def m__law_demands : MP := mDef .o 5 b__law_demands
def b__law_profit_L0 : MS :=
  (mIf (mCmpT fEq (mOp fIx (mOp fIx (mVar 0) (mVar 6)) (mC (.int 1))) (mVar 2))
  (mKeep [.d, .x, .d, .d, .d, .d, .x] (mAsg 5 (mCall RM.m__law_add [] (mCons (mVar 5) (mCons (mCall RM.m__law_times [] (mCons (mCall RM.m__law_sub [] (mCons (mOp fIx (mVar 3) (mVar 6)) (mCons (mOp fIx (mOp fIx (mVar 0) (mVar 6)) (mC (.int 4))) mNil))) (mCons (mOp fIx (mVar 4) (mVar 6)) mNil))) mNil)))))
  (mKeep [.d, .x, .d, .d, .d, .d, .x] mNext))
def b__law_profit : MS :=
  (mSeq (mAsg 4 (mCall RM.m__law_demands [] (mCons (mVar 0) (mCons (mVar 1) (mCons (mVar 3) mNil)))))
  (mSeq (mAsg 5 (mTup (mCons (mC (.int 0)) (mCons (mC (.int 1)) mNil))))
  (mSeq (mKeep0 [.d, .x, .d, .d, .d, .d, .x] (mFor (mRng rng1 (mCons (mCB fLen (mCons (mVar 0) mNil)) mNil)) (bName 6) b__law_profit_L0))
  (mRet (mVar 5)))))
def m__law_profit : MP := mDef .d 3 b__law_profit
def b__law_less : MS :=
  (mRet (mCmp fLt (mOp (fIntC CMulX (· * ·)) (mOp fIx (mVar 0) (mC (.int 0))) (mOp fIx (mVar 1) (mC (.int 1)))) (mOp (fIntC CMulX (· * ·)) (mOp fIx (mVar 1) (mC (.int 0))) (mOp fIx (mVar 0) (mC (.int 1))))))
def m__law_less : MP := mDef .d 0 b__law_less
def b_judge : MS :=
  (mSeq (mAsgT (bTup 2 (bCons (bName 2) (bCons (bName 3) bNil))) (mCall RM.m_equations [] (mCons (mVar 0) mNil)))
  (mRet (mAndV (mCmp fEq (mCB fLen (mCons (mVar 1) mNil)) (mCB fLen (mCons (mVar 2) mNil))) (mCmp fEq (mCall RV.m_product [] (mCons (mVar 2) (mCons (mVar 1) mNil))) (mVar 3)))))
def m_judge : MP := mDef .d 2 b_judge
def b__law_over : MS :=
  (mRet (mCall RM.m__law_ratio [] (mCons (mOp (fIntC CMulX (· * ·)) (mOp fIx (mVar 0) (mC (.int 0))) (mOp fIx (mVar 1) (mC (.int 1)))) (mCons (mOp (fIntC CMulX (· * ·)) (mOp fIx (mVar 0) (mC (.int 1))) (mOp fIx (mVar 1) (mC (.int 0)))) mNil))))
def m__law_over : MP := mDef .d 0 b__law_over
def b_is_lively_L0 : MS :=
  (mIf (mNot (mTr (mCall RV.m_less [] (mCons (mC (.tup [(.int 0), (.int 1)])) (mCons (mVar 1) mNil)))))
  (mRet (mC (.bl false)))
  (mKeep [.d, .x] mNext))
def b_is_lively : MS :=
  (mSeq (mFor (mItL (mMeth 0 "demands" RM.m_Market_demands [] (mVar 0) (mCons (mCall RM.m_equilibrium [] (mCons (mVar 0) mNil)) mNil))) (bName 1) b_is_lively_L0)
  (mRet (mC (.bl true))))
def m_is_lively : MP := mDef .d 1 b_is_lively
end RM

set_option Elab.async false
set_option linter.all false
set_option maxRecDepth 100000
set_option maxHeartbeats 1000000
/-! PG: plain data and its equality; ratios as rationals; drawn numbers. -/
namespace MR
open PySem L2
/-! ### equality of plain data -/
mutual
def eqvD : D → D → Bool
  | .non, .non => true
  | .bl a, .bl b => a == b
  | .bl a, .int j => (if a then 1 else 0) == j
  | .int i, .bl b => i == (if b then 1 else 0)
  | .int i, .int j => i == j
  | .str x, .str y => x == y
  | .tup xs, .tup ys => eqvL xs ys
  | .lst xs, .lst ys => eqvL xs ys
  | _, _ => false
def eqvL : List D → List D → Bool
  | [], [] => true
  | x :: xs, y :: ys => eqvD x y && eqvL xs ys
  | _, _ => false
end
mutual
/-- data with a PyData, at most k deep -/
def plain : Nat → D → Bool
  | _, .non => true
  | _, .bl _ => true
  | _, .int _ => true
  | _, .str x => x.cps.all (· < 0x110000)
  | k + 1, .tup ds => plains k ds
  | k + 1, .lst ds => plains k ds
  | _, _ => false
def plains : Nat → List D → Bool
  | _, [] => true
  | k, d :: ds => plain k d && plains k ds
end
mutual
theorem plain_py : ∀ {k : Nat} {d : D}, plain k d = true → ∃ p, toPy d = some p ∧ p.canLay0 = true ∧ p.depth ≤ k
  | _, .non, _ => ⟨.none, rfl, by simp [PyData.canLay0], by simp [PyData.depth]⟩
  | _, .bl b, _ => ⟨.bool b, rfl, by simp [PyData.canLay0], by simp [PyData.depth]⟩
  | _, .int i, _ => ⟨.int i, rfl, by simp [PyData.canLay0], by simp [PyData.depth]⟩
  | _, .str x, h => ⟨.str x, rfl, by rw [PyData.canLay0]; exact h, by simp [PyData.depth]⟩
  | k + 1, .tup ds, h => by
    obtain ⟨ps, e, c, d⟩ := plains_py (k := k) (ds := ds) (by simpa [plain] using h)
    exact ⟨.tuple ps, by simp [toPy, e], by simpa [PyData.canLay0] using c, by simp [PyData.depth]; omega⟩
  | k + 1, .lst ds, h => by
    obtain ⟨ps, e, c, d⟩ := plains_py (k := k) (ds := ds) (by simpa [plain] using h)
    exact ⟨.list ps, by simp [toPy, e], by simpa [PyData.canLay0] using c, by simp [PyData.depth]; omega⟩
  | 0, .tup _, h => by simp [plain] at h
  | 0, .lst _, h => by simp [plain] at h
  | 0, .dK _, h => by simp [plain] at h
  | _ + 1, .dK _, h => by simp [plain] at h
  | 0, .dT _, h => by simp [plain] at h
  | _ + 1, .dT _, h => by simp [plain] at h
  | 0, .ins _ _, h => by simp [plain] at h
  | _ + 1, .ins _ _, h => by simp [plain] at h
  | 0, .scr _, h => by simp [plain] at h
  | _ + 1, .scr _, h => by simp [plain] at h
theorem plains_py : ∀ {k : Nat} {ds : List D}, plains k ds = true → ∃ ps, toPys ds = some ps ∧ PyData.canLayAll0 ps = true ∧ PyData.depthAll ps ≤ k
  | _, [], _ => ⟨[], rfl, by simp [PyData.canLayAll0], by simp [PyData.depthAll]⟩
  | k, d :: ds, h => by
    simp only [plains, Bool.and_eq_true] at h
    obtain ⟨p, e, c, l⟩ := plain_py h.1
    obtain ⟨ps, es, cs, ls⟩ := plains_py h.2
    exact ⟨p :: ps, by simp [toPys, e, es], by simp [PyData.canLayAll0, c, cs], by simp [PyData.depthAll]; omega⟩
end
mutual
theorem eqv_py : ∀ {a b : D} {p q : PyData}, toPy a = some p → toPy b = some q → PyData.eqv p q = eqvD a b := by
  intro a b p q h1 h2
  cases a <;> cases b <;> simp [toPy] at h1 h2 <;> first
    | (subst h1; subst h2; simp [PyData.eqv, eqvD]; done)
    | (obtain ⟨ps, e1, rfl⟩ := h1; obtain ⟨qs, e2, rfl⟩ := h2; simp [PyData.eqv, eqvD]; done)
    | (obtain ⟨ps, e1, rfl⟩ := h1; obtain ⟨qs, e2, rfl⟩ := h2; simp only [PyData.eqv, eqvD]; first | rfl | exact eqvs_py e1 e2)
    | (obtain ⟨ps, e1, rfl⟩ := h1; subst h2; simp [PyData.eqv, eqvD]; done)
    | (obtain ⟨ps, e1, rfl⟩ := h2; subst h1; simp [PyData.eqv, eqvD]; done)
theorem eqvs_py : ∀ {as bs : List D} {ps qs : List PyData}, toPys as = some ps → toPys bs = some qs → PyData.eqvAll ps qs = eqvL as bs
  | [], [], _, _, h1, h2 => by simp [toPys] at h1 h2; subst h1; subst h2; rfl
  | a :: as, [], ps, qs, h1, h2 => by
    simp [toPys] at h1 h2
    split at h1
    · cases h1; subst h2; rfl
    · cases h1
  | [], b :: bs, ps, qs, h1, h2 => by
    simp [toPys] at h1 h2
    split at h2
    · cases h2; subst h1; rfl
    · cases h2
  | a :: as, b :: bs, ps, qs, h1, h2 => by
    simp [toPys] at h1 h2
    split at h1
    · rename_i p1 p2 ha has
      split at h2
      · rename_i q1 q2 hb hbs
        cases h1; cases h2
        simp only [PyData.eqvAll, eqvL]
        rw [eqv_py ha hb, eqvs_py has hbs]
      · cases h2
    · cases h1
end
theorem fEq_plain {k l : Nat} {a b : D} (h1 : plain k a = true) (h2 : plain l b = true) (hk : k ≤ 64 := by decide) (hl : l ≤ 64 := by decide) : fEq a b = some (eqvD a b) := by
  obtain ⟨p, e1, c1, d1⟩ := plain_py h1
  obtain ⟨q, e2, c2, d2⟩ := plain_py h2
  have key : fEqD a b = some (eqvD a b) := by
    unfold fEqD
    rw [e1, e2]
    have s1 : SeqAt.shaped p = true := by simp [SeqAt.shaped, c1]; omega
    have s2 : SeqAt.shaped q = true := by simp [SeqAt.shaped, c2]; omega
    simp only [s1, s2, and_self, if_true]
    rw [eqv_py e1 e2]
  unfold fEq
  split
  · simp [eqvD, Bool.beq_eq_decide_eq]
  · simp [eqvD]
    exact (Bool.beq_eq_decide_eq _ _).symm
  · simp [eqvD, Bool.beq_eq_decide_eq]
  · exact key
theorem fNe_plain {k l : Nat} {a b : D} (h1 : plain k a = true) (h2 : plain l b = true) (hk : k ≤ 64 := by decide) (hl : l ≤ 64 := by decide) : fNe a b = some (!eqvD a b) := by
  unfold fNe
  rw [fEq_plain h1 h2 hk hl]
  rfl
end MR

set_option Elab.async false
set_option linter.all false
set_option maxRecDepth 100000
set_option maxHeartbeats 1000000
/-! PQ: the program's ratios as rationals. -/
namespace MR
open PySem L2
/-- the ratio of a rational -/
abbrev rq (x : Rat) : D := .tup [.int x.num, .int x.den]
/-- its size in bits -/
structure Bt (k : Nat) (x : Rat) : Prop where
  n : x.num.natAbs < 2 ^ k
  d : x.den < 2 ^ k
theorem Bt.mono {k l : Nat} {x : Rat} (h : Bt k x) (e : k ≤ l) : Bt l x := ⟨Nat.lt_of_lt_of_le h.n (Nat.pow_le_pow_right (by decide) e), Nat.lt_of_lt_of_le h.d (Nat.pow_le_pow_right (by decide) e)⟩
theorem plain_rq {x : Rat} : plain 1 (rq x) = true := rfl
theorem eqvD_rq {x y : Rat} : eqvD (rq x) (rq y) = decide (x = y) := by
  simp only [eqvD, eqvL, Bool.and_true]
  by_cases h : x = y
  · subst h; simp
  · rw [decide_eq_false h]
    cases h1 : x.num == y.num with
    | false => rfl
    | true =>
      cases h2 : (x.den : Int) == (y.den : Int) with
      | false => rfl
      | true =>
        exfalso
        refine h (Rat.ext (by simpa using h1) ?_)
        have : (x.den : Int) = y.den := by simpa using h2
        omega
@[simp] theorem fEq_rq {x y : Rat} : fEq (rq x) (rq y) = some (decide (x = y)) := by rw [fEq_plain plain_rq plain_rq, eqvD_rq]
@[simp] theorem fNe_rq {x y : Rat} : fNe (rq x) (rq y) = some (!decide (x = y)) := by rw [fNe_plain plain_rq plain_rq, eqvD_rq]
theorem den_pos (x : Rat) : 0 < (x.den : Int) := by have := x.den_nz; omega
theorem rq_int {n : Int} {y : Rat} (h : y = n) : (.tup [.int n, .int 1] : D) = rq y := by subst h; rfl
/-! ### sizes -/
theorem divInt_n {n d : Int} (hd : d ≠ 0) : (Rat.divInt n d).num.natAbs ≤ n.natAbs := by
  rw [Rat.num_divInt]
  rw [Int.natAbs_ediv_of_dvd (Int.dvd_trans (Int.gcd_dvd_right ..) (Int.dvd_mul_left ..))]
  refine Nat.le_trans (Nat.div_le_self _ _) ?_
  rw [Int.natAbs_mul, Int.natAbs_sign_of_ne_zero hd]
  omega
theorem divInt_d {n d : Int} (hd : d ≠ 0) : (Rat.divInt n d).den ≤ d.natAbs := by
  rw [Rat.den_divInt, if_neg hd]
  exact Nat.div_le_self _ _
theorem Bt.of {n d : Int} {k : Nat} (hd : d ≠ 0) (h1 : n.natAbs < 2 ^ k) (h2 : d.natAbs < 2 ^ k) : Bt k (Rat.divInt n d) := ⟨Nat.lt_of_le_of_lt (divInt_n hd) h1, Nat.lt_of_le_of_lt (divInt_d hd) h2⟩
theorem mul_bits {a b k l : Nat} (h1 : a < 2 ^ k) (h2 : b < 2 ^ l) : a * b < 2 ^ (k + l) := by
  rw [Nat.pow_add]
  exact Nat.mul_lt_mul'' h1 h2
theorem mul_bitsI {a b : Int} {k l : Nat} (h1 : a.natAbs < 2 ^ k) (h2 : b.natAbs < 2 ^ l) : (a * b).natAbs < 2 ^ (k + l) := by
  rw [Int.natAbs_mul]
  exact mul_bits h1 h2
theorem add_bitsI {a b : Int} {k : Nat} (h1 : a.natAbs < 2 ^ k) (h2 : b.natAbs < 2 ^ k) : (a + b).natAbs < 2 ^ (k + 1) := by
  rw [Nat.pow_succ]
  omega
theorem sub_bitsI {a b : Int} {k : Nat} (h1 : a.natAbs < 2 ^ k) (h2 : b.natAbs < 2 ^ k) : (a - b).natAbs < 2 ^ (k + 1) := by
  rw [Nat.pow_succ]
  omega
theorem add_eqD (x y : Rat) : x + y = Rat.divInt (x.num * y.den + y.num * x.den) (x.den * y.den) := by
  rw [Rat.add_def', ← Rat.divInt_ofNat, Int.natCast_mul]
theorem sub_eqD (x y : Rat) : x - y = Rat.divInt (x.num * y.den - y.num * x.den) (x.den * y.den) := by
  rw [Rat.sub_def', ← Rat.divInt_ofNat, Int.natCast_mul]
theorem mul_eqD (x y : Rat) : x * y = Rat.divInt (x.num * y.num) (x.den * y.den) := by
  rw [Rat.mul_def', ← Rat.divInt_ofNat, Int.natCast_mul]
theorem div_eqD (x y : Rat) : x / y = Rat.divInt (x.num * y.den) (x.den * y.num) := by
  rw [Rat.div_def, Rat.inv_def]
  conv => lhs; lhs; rw [← Rat.num_divInt_den x]
  rw [Rat.divInt_mul_divInt]
theorem dn0 (x y : Rat) : (x.den : Int) * y.den ≠ 0 := Int.mul_ne_zero (by have := den_pos x; omega) (by have := den_pos y; omega)
theorem Bt.addl {k l : Nat} {x y : Rat} (h1 : Bt k x) (h2 : Bt l y) : Bt (k + l + 1) (x + y) := by
  rw [add_eqD]
  refine .of (dn0 x y) (add_bitsI (mul_bitsI h1.n (by simpa using h2.d)) ?_) (Nat.lt_trans (mul_bitsI (by simpa using h1.d) (by simpa using h2.d)) (Nat.pow_lt_pow_right (by decide) (by omega)))
  rw [Nat.add_comm k l]
  exact mul_bitsI h2.n (by simpa using h1.d)
theorem Bt.subl {k l : Nat} {x y : Rat} (h1 : Bt k x) (h2 : Bt l y) : Bt (k + l + 1) (x - y) := by
  rw [sub_eqD]
  refine .of (dn0 x y) (sub_bitsI (mul_bitsI h1.n (by simpa using h2.d)) ?_) (Nat.lt_trans (mul_bitsI (by simpa using h1.d) (by simpa using h2.d)) (Nat.pow_lt_pow_right (by decide) (by omega)))
  rw [Nat.add_comm k l]
  exact mul_bitsI h2.n (by simpa using h1.d)
theorem Bt.add {k : Nat} {x y : Rat} (h1 : Bt k x) (h2 : Bt k y) : Bt (k + k + 1) (x + y) := h1.addl h2
theorem Bt.sub {k : Nat} {x y : Rat} (h1 : Bt k x) (h2 : Bt k y) : Bt (k + k + 1) (x - y) := h1.subl h2
theorem Bt.mul {k l : Nat} {x y : Rat} (h1 : Bt k x) (h2 : Bt l y) : Bt (k + l) (x * y) := by
  rw [mul_eqD]
  exact .of (dn0 x y) (mul_bitsI h1.n h2.n) (mul_bitsI (by simpa using h1.d) (by simpa using h2.d))
theorem Bt.div {k l : Nat} {x y : Rat} (h1 : Bt k x) (h2 : Bt l y) (h0 : y ≠ 0) : Bt (k + l) (x / y) := by
  rw [div_eqD]
  have : y.num ≠ 0 := fun z => h0 (Rat.num_eq_zero.mp z)
  exact .of (Int.mul_ne_zero (by have := den_pos x; omega) this) (mul_bitsI h1.n (by simpa using h2.d)) (mul_bitsI (by simpa using h1.d) h2.n)
/-! ### the lowest terms -/
theorem gcd_loop (x y : D) (k : Nat) : ∀ a b : Nat, b < k → whileN (mCmpT fGt (mVar 3) (mC (.int 0))) RV.b__law_low_L0 k [x, y, .int a, .int b] = .nx [x, y, .int (Nat.gcd a b), .int 0] := by
  induction k with
  | zero => intro a b h; omega
  | succ k ih =>
    intro a b h
    rw [whileN_succ]
    by_cases hb : b = 0
    · subst hb
      simp
    · have h2 : CModX (a : Int) (b : Int) := by unfold CModX; omega
      have h3 : ((a : Int).fmod (b : Int)) = ((a % b : Nat) : Int) := by
        rw [Int.fmod_eq_emod_of_nonneg _ (by omega)]; simp
      have h4 : a % b < b := Nat.mod_lt _ (by omega)
      have e : RV.b__law_low_L0 [x, y, .int a, .int b] = .nx [x, y, .int b, .int ((a % b : Nat) : Int)] := by
        unfold RV.b__law_low_L0
        simp [h2, h3]
      have t : mCmpT fGt (mVar 3) (mC (.int 0)) [x, y, .int a, .int b] = .ok true [x, y, .int a, .int b] := by simp; omega
      rw [t, wh_t, e, loop_nx]
      rw [ih b (a % b) (by omega), Nat.gcd_comm a b, Nat.gcd_rec b a, Nat.gcd_comm b (a % b)]
theorem gcd_loop2 (k : Nat) : ∀ (a : Int) (b : Nat), b < k → ∃ g : Int, whileN (mCmpT fNe (mVar 1) (mC (.int 0))) RV.b_common_divisor_L0 k [.int a, .int b] = .nx [.int g, .int 0] ∧ g.natAbs = Int.gcd a b := by
  induction k with
  | zero => intro a b h; omega
  | succ k ih =>
    intro a b h
    rw [whileN_succ]
    by_cases hb : b = 0
    · subst hb
      exact ⟨a, by simp, by simp⟩
    · have h2 : CModX a (b : Int) := by unfold CModX; omega
      have h5 : 0 ≤ a % (b : Int) := Int.emod_nonneg _ (by omega)
      have h4 : a % (b : Int) < b := Int.emod_lt_of_pos _ (by omega)
      obtain ⟨m, hm⟩ := Int.eq_ofNat_of_zero_le h5
      have h3 : a.fmod (b : Int) = m := by
        rw [Int.fmod_eq_emod_of_nonneg _ (by omega)]; exact hm
      have e : RV.b_common_divisor_L0 [.int a, .int b] = .nx [.int b, .int m] := by
        unfold RV.b_common_divisor_L0
        simp [h2, h3]
      have t : mCmpT fNe (mVar 1) (mC (.int 0)) [.int a, .int b] = .ok true [.int a, .int b] := by simp; omega
      rw [t, wh_t, e, loop_nx]
      obtain ⟨g, h6, h7⟩ := ih b m (by omega)
      refine ⟨g, h6, ?_⟩
      rw [h7, ← hm, Int.gcd_comm a]
      have e2 : a = a % (b : Int) + (b : Int) * (a / b) := by have := Int.emod_add_mul_ediv a b; omega
      conv => rhs; rw [e2]
      exact (Int.gcd_add_mul_left_right _ _ _).symm
theorem divx_g {i : Int} {n d : Int} (hd : d ≠ 0) (hi : i.natAbs < 2 ^ 13500) : CDivX i (Int.gcd n d : Int) := by
  have g0 : 0 < Int.gcd n d := Int.gcd_pos_of_ne_zero_right n hd
  exact divx2 (by omega) hi
theorem fdiv_g (i n d : Int) : i.fdiv (Int.gcd n d : Int) = i / (Int.gcd n d : Int) := Int.fdiv_eq_ediv_of_nonneg _ (by omega)
theorem rq_divInt {n d : Int} (hd : 0 < d) : rq (Rat.divInt n d) = .tup [.int (n / (Int.gcd n d : Int)), .int (d / (Int.gcd n d : Int))] := by
  unfold rq
  have h0 : d ≠ 0 := by omega
  rw [Rat.num_divInt, Rat.den_divInt, if_neg h0, Int.sign_eq_one_of_pos hd, Int.one_mul, Int.gcd_comm d n, Int.natCast_ediv]
  rw [show ((d.natAbs : Nat) : Int) = d by omega]
theorem low_eq {n d : Int} (hd : 0 < d) (hn : n.natAbs < 2 ^ 13500) (hs : d.natAbs < 2 ^ 13500) : RV.m__law_low [.int n, .int d] = .ok (rq (Rat.divInt n d)) := by
  have lt0 : ¬ d < 0 := by omega
  have h0 : d ≠ 0 := by omega
  have L := gcd_loop (.int n) (.int d) (d.natAbs + 1) n.natAbs d.natAbs (by omega)
  unfold RV.m__law_low
  rw [mDef_eq]
  unfold RV.b__law_low
  simp [D.nat, L, lt0]
  rw [show n.natAbs.gcd d.natAbs = Int.gcd n d from rfl]
  simp only [divx_g h0 hn, divx_g h0 hs, fdiv_g, if_true, rr_of_some, cons1_ok, cons2_ok, rq_divInt hd]
  simp [divx_g h0 hn, divx_g h0 hs, fdiv_g]
theorem isint_int (i : Int) : RV.m_is_integer [.int i] = .ok (.bl true) := by
  unfold RV.m_is_integer
  rw [mDef_eq]
  unfold RV.b_is_integer
  simp [fNotV]
theorem isint_bl (p : Bool) : RV.m_is_integer [.bl p] = .ok (.bl false) := by
  unfold RV.m_is_integer
  rw [mDef_eq]
  unfold RV.b_is_integer
  simp [fNotV]
theorem isint_not {x : D} (h : fIsi "int" x = some (.bl false)) : RV.m_is_integer [x] = .ok (.bl false) := by
  unfold RV.m_is_integer
  rw [mDef_eq]
  unfold RV.b_is_integer
  simp [h]
theorem ratio_bad1 {x y : D} (h : RV.m_is_integer [x] = .ok (.bl false)) : RV.m_ratio [x, y] = .exc .ratio := by
  unfold RV.m_ratio
  rw [mDef_eq]
  unfold RV.b_ratio
  simp [h]
theorem ratio_bad2 {n : Int} {y : D} (h : RV.m_is_integer [y] = .ok (.bl false)) : RV.m_ratio [.int n, y] = .exc .ratio := by
  unfold RV.m_ratio
  rw [mDef_eq]
  unfold RV.b_ratio
  simp [h, isint_int]
theorem ratio_low {n d : Int} (h : d < 1) : RV.m_ratio [.int n, .int d] = .exc .ratio := by
  unfold RV.m_ratio
  rw [mDef_eq]
  unfold RV.b_ratio
  simp [isint_int, h]
theorem ratio_eq {n d : Int} (hd : 0 < d) (hn : n.natAbs < 2 ^ 13500) (hs : d.natAbs < 2 ^ 13500) : RV.m_ratio [.int n, .int d] = .ok (rq (Rat.divInt n d)) := by
  have lt0 : ¬ d < 1 := by omega
  have h0 : d ≠ 0 := by omega
  obtain ⟨g, L, hg⟩ := gcd_loop2 (d.natAbs + 1) n d.natAbs (by omega)
  have ed : ((d.natAbs : Nat) : Int) = d := by omega
  rw [ed] at L hg
  have ig : ∀ i : Int, RV.m_is_integer [.int i] = .ok (.bl true) := fun i => by
    unfold RV.m_is_integer
    rw [mDef_eq]
    unfold RV.b_is_integer
    simp [fNotV]
  have cd : RV.m_common_divisor [.int n, .int d] = .ok (.int (Int.gcd n d)) := by
    unfold RV.m_common_divisor
    rw [mDef_eq]
    unfold RV.b_common_divisor
    simp [D.nat, L, hg]
  unfold RV.m_ratio
  rw [mDef_eq]
  unfold RV.b_ratio
  simp [ig, cd, lt0, divx_g h0 hn, divx_g h0 hs, fdiv_g]
  have e := rq_divInt (n := n) hd
  simp only [rq, D.tup.injEq, List.cons.injEq, D.int.injEq, and_true] at e
  exact ⟨e.1.symm, e.2.symm⟩
theorem cross {v : Rat} {n d : Int} (h : v = Rat.divInt n d) (hd : d ≠ 0) : v.num * d = n * v.den := by
  have e : Rat.divInt v.num v.den = Rat.divInt n d := by rw [Rat.num_divInt_den]; exact h
  exact (Rat.divInt_eq_divInt_iff (by have := den_pos v; omega) hd).mp e
/-! ### drawn numbers -/
theorem cell_eq (ns : List Int) (k : Nat) (hk : k ≤ 1000) : RV.m__law_cell [.scr ns, .int k] = .ok (.int (ns.getD k (13 * k + 2))) := by
  unfold RV.m__law_cell
  rw [mDef_eq]
  unfold RV.b__law_cell
  by_cases h : k < ns.length
  · simp [h, atI_nat']
  · have h3 : CMulX 13 k := mulx (a := 10) (b := 10) (by decide) (by omega)
    simp [h, h3]
theorem cell_ex (ns : List Int) (k : Int) (h0 : 0 ≤ k := by omega) (hk : k ≤ 1000 := by omega) : ∃ x : Int, RV.m__law_cell [.scr ns, .int k] = .ok (.int x) := by
  obtain ⟨n, rfl⟩ := Int.eq_ofNat_of_zero_le h0
  exact ⟨_, cell_eq ns n (by omega)⟩
theorem modx {i j : Int} (h : j ≠ 0 := by decide) : CModX i j := h
theorem fmod_lt {i j : Int} (h : 0 < j) : 0 ≤ i.fmod j ∧ i.fmod j < j := by
  rw [Int.fmod_eq_emod_of_nonneg i (by omega)]
  exact ⟨Int.emod_nonneg _ (by omega), Int.emod_lt_of_pos _ h⟩
theorem num_eq (c : Int) : ∃ n : Int, RV.m__law_number [.int c] = .ok (.int n) ∧ n.natAbs < 2 ^ 47 := by
  unfold RV.m__law_number
  rw [mDef_eq]
  unfold RV.b__law_number
  have hd : CDivX c 4 := divx (b := 3) (by decide) (by decide)
  have hm : ∀ i : Int, CModX i 4 ∧ CModX i 19 ∧ CModX i 3000 ∧ CModX i 777 := fun i => by unfold CModX; decide
  have hp : CPow 10 14 := by decide
  have e1 : (c.fmod 4 = 0 ∨ c.fmod 4 = 1) ∨ (c.fmod 4 = 2 ∨ c.fmod 4 = 3) := by
    have := @fmod_lt c 4 (by decide)
    omega
  have := @fmod_lt (c.fdiv 4) 19 (by decide); have := @fmod_lt (c.fdiv 4) 3000 (by decide); have := @fmod_lt (c.fdiv 4) 777 (by decide)
  simp [hd, hm, hp]
  rcases e1 with (e | e) | (e | e) <;> rw [e] <;> simp <;> omega
theorem p2 {k l : Nat} {n : Nat} (h : n < 2 ^ k) (e : k ≤ l := by decide) : n < 2 ^ l := Nat.lt_of_lt_of_le h (Nat.pow_le_pow_right (by decide) e)
theorem rat_eq (c : Int) : ∃ x : Rat, RV.m__law_ratio [.int c] = .ok (rq x) ∧ Bt 48 x := by
  obtain ⟨n, en, hn⟩ := num_eq (c.fdiv 3)
  obtain ⟨d, ed, hd⟩ := num_eq (c.fdiv 8)
  have b1 : n.natAbs < 2 ^ 48 := p2 hn
  have b2 : (1 + (d.natAbs : Int)).natAbs < 2 ^ 48 := by omega
  refine ⟨Rat.divInt n (1 + d.natAbs), ?_, .of (by omega) b1 b2⟩
  have e := low_eq (n := n) (d := 1 + d.natAbs) (by omega) (p2 b1) (p2 b2)
  unfold RV.m__law_ratio
  rw [mDef_eq]
  unfold RV.b__law_ratio
  have c3 : CDivX c 3 := divx (b := 3) (by decide) (by decide)
  have c8 : CDivX c 8 := divx (b := 4) (by decide) (by decide)
  simp [c3, c8, en, ed, e]
/-! ### reckoning -/
section
variable {k l : Nat} {x y : Rat}
theorem mx {i j : Int} (h1 : i.natAbs < 2 ^ k) (h2 : j.natAbs < 2 ^ l) (h : k + l ≤ 133000000) : CMulX i j := by
  refine mulx (a := k + 1) (b := l + 1) ?_ ?_ (by omega) (by omega) (by omega)
  · exact Nat.lt_trans h1 (Nat.pow_lt_pow_right (by decide) (by omega))
  · exact Nat.lt_trans h2 (Nat.pow_lt_pow_right (by decide) (by omega))
theorem nd (h : Bt k x) : ((x.den : Int)).natAbs < 2 ^ k := by simpa using h.d
theorem less_eq (h1 : Bt k x) (h2 : Bt l y) (h : k + l ≤ 133000000 := by decide) : RV.m_less [rq x, rq y] = .ok (.bl (decide (x < y))) := by
  unfold RV.m_less
  rw [mDef_eq]
  unfold RV.b_less
  have m1 := mx h1.n (nd h2) h
  have m2 := mx h2.n (nd h1) (by omega)
  simp [m1, m2, Rat.lt_iff]
theorem at_most_eq (h1 : Bt k x) (h2 : Bt l y) (h : k + l ≤ 133000000 := by decide) : RV.m_at_most [rq x, rq y] = .ok (.bl (decide (x ≤ y))) := by
  unfold RV.m_at_most
  rw [mDef_eq]
  unfold RV.b_at_most
  have m1 := mx h1.n (nd h2) h
  have m2 := mx h2.n (nd h1) (by omega)
  simp [m1, m2, Rat.le_iff]
theorem sign_eq : RV.m_sign [rq x] = .ok (.int ((if 0 < x.num then 1 else 0) - (if x.num < 0 then 1 else 0))) := by
  unfold RV.m_sign
  rw [mDef_eq]
  unfold RV.b_sign
  simp
theorem den_mul_pos : 0 < (x.den : Int) * y.den := Int.mul_pos (den_pos x) (den_pos y)
theorem add_eq (h1 : Bt k x) (h2 : Bt l y) (h : k + l ≤ 13400 := by decide) : RV.m_add [rq x, rq y] = .ok (rq (x + y)) := by
  unfold RV.m_add
  rw [mDef_eq]
  unfold RV.b_add
  have m1 := mx h1.n (nd h2) (by omega)
  have m2 := mx h2.n (nd h1) (by omega)
  have m3 := mx (nd h1) (nd h2) (by omega)
  have b1 := mul_bitsI h1.n (nd h2)
  have b2 := mul_bitsI h2.n (nd h1)
  have b3 := mul_bitsI (nd h1) (nd h2)
  have q1 := p2 b1 (l := 13499) (by omega)
  have q2 := p2 b2 (l := 13499) (by omega)
  have e := ratio_eq (n := x.num * y.den + y.num * x.den) (d := x.den * y.den) den_mul_pos (add_bitsI q1 q2) (p2 b3 (by omega))
  simp [m1, m2, m3, e, add_eqD]
theorem sub_eq (h1 : Bt k x) (h2 : Bt l y) (h : k + l ≤ 13400 := by decide) : RV.m_sub [rq x, rq y] = .ok (rq (x - y)) := by
  unfold RV.m_sub
  rw [mDef_eq]
  unfold RV.b_sub
  have m1 := mx h1.n (nd h2) (by omega)
  have m2 := mx h2.n (nd h1) (by omega)
  have m3 := mx (nd h1) (nd h2) (by omega)
  have b1 := mul_bitsI h1.n (nd h2)
  have b2 := mul_bitsI h2.n (nd h1)
  have b3 := mul_bitsI (nd h1) (nd h2)
  have q1 := p2 b1 (l := 13499) (by omega)
  have q2 := p2 b2 (l := 13499) (by omega)
  have e := ratio_eq (n := x.num * y.den - y.num * x.den) (d := x.den * y.den) den_mul_pos (sub_bitsI q1 q2) (p2 b3 (by omega))
  simp [m1, m2, m3, e, sub_eqD]
theorem times_eq (h1 : Bt k x) (h2 : Bt l y) (h : k + l ≤ 13400 := by decide) : RV.m_times [rq x, rq y] = .ok (rq (x * y)) := by
  unfold RV.m_times
  rw [mDef_eq]
  unfold RV.b_times
  have m1 := mx h1.n h2.n (by omega)
  have m3 := mx (nd h1) (nd h2) (by omega)
  have b1 := mul_bitsI h1.n h2.n
  have b3 := mul_bitsI (nd h1) (nd h2)
  have e := ratio_eq (n := x.num * y.num) (d := x.den * y.den) den_mul_pos (p2 b1 (by omega)) (p2 b3 (by omega))
  simp [m1, m3, e, mul_eqD]
theorem over_eq (h1 : Bt k x) (h2 : Bt l y) (h0 : y ≠ 0) (h : k + l ≤ 13400 := by decide) : RV.m_over [rq x, rq y] = .ok (rq (x / y)) := by
  have hn : y.num ≠ 0 := fun z => h0 (Rat.num_eq_zero.mp z)
  unfold RV.m_over
  rw [mDef_eq]
  unfold RV.b_over
  have m1 := mx h1.n (nd h2) (by omega)
  have m2 := mx (nd h1) h2.n (by omega)
  have b1 := mul_bitsI h1.n (nd h2)
  have b3 := mul_bitsI (nd h1) h2.n
  by_cases hy : y.num < 0
  · have d0 : (x.den : Int) * y.num < 0 := Int.mul_neg_of_pos_of_neg (den_pos x) hy
    have e := ratio_eq (n := -(x.num * y.den)) (d := -(x.den * y.num)) (by omega) (by simpa using p2 b1 (by omega)) (by simpa using p2 b3 (by omega))
    rw [Rat.neg_divInt_neg] at e
    simp [hn, m1, m2, d0, e, div_eqD]
  · have d0 : ¬ (x.den : Int) * y.num < 0 := by
      have := Int.mul_pos (den_pos x) (show 0 < y.num by omega)
      omega
    have e := ratio_eq (n := x.num * y.den) (d := x.den * y.num) (Int.mul_pos (den_pos x) (by omega)) (p2 b1 (by omega)) (p2 b3 (by omega))
    simp [hn, m1, m2, d0, e, div_eqD]
theorem over_zero : RV.m_over [rq x, .tup [.int 0, .int 1]] = .exc .ratio := by
  unfold RV.m_over
  rw [mDef_eq]
  unfold RV.b_over
  simp
theorem is_ratio_eq (h1 : x.num.natAbs < 2 ^ 13500) (h2 : x.den < 2 ^ 13500) : RV.m__law_is_ratio [rq x] = .ok (.bl true) := by
  unfold RV.m__law_is_ratio
  rw [mDef_eq]
  unfold RV.b__law_is_ratio
  have e := low_eq (n := x.num) (d := x.den) (den_pos x) h1 (by simpa using h2)
  rw [Rat.num_divInt_den] at e
  have p := den_pos x
  have d1 : (1 : Int) ≤ x.den := by omega
  simp [forL_cons, RV.b__law_is_ratio_L0, d1, e]
end
end MR

set_option Elab.async false
set_option linter.all false
set_option maxRecDepth 100000
set_option maxHeartbeats 1000000
/-! PM: sums, products of rows. -/
namespace MR
open PySem L2
def rql (xs : List Rat) : D := .lst (xs.map rq)
def rqm (rows : List (List Rat)) : D := .lst (rows.map rql)
def at0 (xs : List Rat) (i : Nat) : Rat := xs.getD i 0
def row (rows : List (List Rat)) (i : Nat) : List Rat := rows.getD i []
def Bts (k : Nat) (xs : List Rat) : Prop := ∀ x ∈ xs, Bt k x
/-! ### plain -/
theorem plains_map {α : Type} {k : Nat} {f : α → D} : ∀ {xs : List α}, (∀ x ∈ xs, plain k (f x) = true) → plains k (xs.map f) = true
  | [], _ => rfl
  | x :: xs, h => by
    simp only [List.map_cons, plains, Bool.and_eq_true]
    exact ⟨h x List.mem_cons_self, plains_map fun y hy => h y (List.mem_cons_of_mem _ hy)⟩
theorem plain_rql {xs : List Rat} : plain 2 (rql xs) = true := plains_map fun _ _ => rfl
theorem plain_rqm {rows : List (List Rat)} : plain 3 (rqm rows) = true := plains_map fun _ _ => plain_rql
theorem eqvL_map {α : Type} [DecidableEq α] {f : α → D} (h : ∀ x y, eqvD (f x) (f y) = decide (x = y)) : ∀ {xs ys : List α}, eqvL (xs.map f) (ys.map f) = decide (xs = ys)
  | [], [] => rfl
  | [], _ :: _ => rfl
  | _ :: _, [] => rfl
  | x :: xs, y :: ys => by
    simp only [List.map_cons, eqvL, h, eqvL_map h]
    by_cases e : x = y
    · subst e
      by_cases e2 : xs = ys
      · subst e2; simp
      · simp [e2]
    · simp [e]
theorem eqvD_rql {xs ys : List Rat} : eqvD (rql xs) (rql ys) = decide (xs = ys) := by
  unfold rql
  simp only [eqvD]
  exact eqvL_map fun _ _ => eqvD_rq
theorem eqvD_rqm {xs ys : List (List Rat)} : eqvD (rqm xs) (rqm ys) = decide (xs = ys) := by
  unfold rqm
  simp only [eqvD]
  exact eqvL_map fun _ _ => eqvD_rql
theorem fEq_rql {xs ys : List Rat} : fEq (rql xs) (rql ys) = some (decide (xs = ys)) := by rw [fEq_plain plain_rql plain_rql, eqvD_rql]
theorem fNe_rql {xs ys : List Rat} : fNe (rql xs) (rql ys) = some (!decide (xs = ys)) := by rw [fNe_plain plain_rql plain_rql, eqvD_rql]
theorem fEq_rqm {xs ys : List (List Rat)} : fEq (rqm xs) (rqm ys) = some (decide (xs = ys)) := by rw [fEq_plain plain_rqm plain_rqm, eqvD_rqm]
/-! ### indexes -/
theorem atI_map {α : Type} {f : α → D} {xs : List α} {n : Nat} (h : n < xs.length) : atI (xs.map f) (n : Int) = some (f xs[n]) := by
  rw [atI_nat', List.getElem?_map, List.getElem?_eq_getElem h]
  rfl
theorem atI_rq {xs : List Rat} {i : Nat} (h : i < xs.length) : atI (xs.map rq) (i : Int) = some (rq (at0 xs i)) := by
  unfold at0
  rw [atI_map h, List.getD_eq_getElem?_getD, List.getElem?_eq_getElem h]
  rfl
@[simp] theorem len_rql {xs : List Rat} : fLen [rql xs] = some (.int xs.length) := by unfold rql; simp
@[simp] theorem len_rqm {xs : List (List Rat)} : fLen [rqm xs] = some (.int xs.length) := by unfold rqm; simp
@[simp] theorem items_rql {xs : List Rat} : itemsOf (rql xs) = some (xs.map rq) := rfl
@[simp] theorem items_rqm {xs : List (List Rat)} : itemsOf (rqm xs) = some (xs.map rql) := rfl
@[simp] theorem asLst_rql {xs : List Rat} : asLst (rql xs) = some (xs.map rq) := rfl
@[simp] theorem asLst_rqm {xs : List (List Rat)} : asLst (rqm xs) = some (xs.map rql) := rfl
@[simp] theorem listOf_rql {xs : List Rat} : fListOf [rql xs] = some (rql xs) := rfl
@[simp] theorem truth_rql {xs : List Rat} : truth (rql xs) = some (!xs.isEmpty) := by cases xs <;> rfl
@[simp] theorem isi_rql {xs : List Rat} : fIsi "list" (rql xs) = some (.bl true) := isi_lst_list
theorem ix_rql {xs : List Rat} {i : Nat} (h : i < xs.length) : fIx (rql xs) (.int i) = some (rq (at0 xs i)) := atI_rq h
theorem ix_rqm {xs : List (List Rat)} {i : Nat} (h : i < xs.length) : fIx (rqm xs) (.int i) = some (rql (row xs i)) := by
  show atI (xs.map rql) (i : Int) = _
  unfold row
  rw [atI_map h, List.getD_eq_getElem?_getD, List.getElem?_eq_getElem h]
  rfl
theorem rql_of {xs : List Rat} : D.lst (xs.map rq) = rql xs := rfl
theorem rqm_of {xs : List (List Rat)} : D.lst (xs.map rql) = rqm xs := rfl
theorem rql_two {a b : Rat} : D.lst [rq a, rq b] = rql [a, b] := rfl
theorem rql_snoc {xs : List Rat} {y : Rat} : D.lst (xs.map rq ++ [rq y]) = rql (xs ++ [y]) := by simp [rql]
theorem rqm_snoc {xs : List (List Rat)} {y : List Rat} : D.lst (xs.map rql ++ [rql y]) = rqm (xs ++ [y]) := by simp [rqm]
theorem rql_nil : D.lst [] = rql [] := rfl
theorem rqm_nil : D.lst [] = rqm [] := rfl
theorem rql_range {n : Nat} {f : Nat → Rat} : D.lst ((List.range n).map fun i => rq (f i)) = rql ((List.range n).map f) := by unfold rql; rw [List.map_map]; rfl
theorem rql_map {α : Type} {xs : List α} {f : α → Rat} : D.lst (xs.map fun x => rq (f x)) = rql (xs.map f) := by unfold rql; rw [List.map_map]; rfl
theorem rqm_map {α : Type} {xs : List α} {f : α → List Rat} : D.lst (xs.map fun x => rql (f x)) = rqm (xs.map f) := by unfold rqm; rw [List.map_map]; rfl
theorem ilist_map {α : Type} {n : Nat} {f : D → α} {g : Nat → α} (h : ∀ i, i < n → f (.int (i : Int)) = g i) : (ilist 0 n).map f = (List.range n).map g := by
  unfold ilist
  rw [List.map_map]
  refine List.map_congr_left fun i hi => ?_
  show f (.int (0 + (i : Int))) = g i
  rw [Int.zero_add]
  exact h i (List.mem_range.mp hi)
/-! ### drawn small ratios -/
theorem small_eq (c : Int) : ∃ x : Rat, RV.m__law_small [.int c] = .ok (rq x) ∧ Bt 4 x ∧ ∃ n d : Int, x = Rat.divInt n d ∧ 1 ≤ d ∧ d ≤ 9 ∧ n.natAbs ≤ 6 := by
  have h1 := @fmod_lt c 13 (by decide)
  have h3 := @fmod_lt (c.fdiv 60) 3 (by decide)
  have e3 : c.fdiv 60 |>.fmod 3 |> fun i => i = 0 ∨ i = 1 ∨ i = 2 := by show _ ∨ _ ∨ _; omega
  have hd : CDivX c 13 := divx (b := 4) (by decide) (by decide)
  have hd2 : CDivX c 60 := divx (b := 6) (by decide) (by decide)
  have hm : ∀ i : Int, CModX i 13 ∧ CModX i 3 ∧ CModX i 1 ∧ CModX i 4 ∧ CModX i 9 := fun i => by unfold CModX; decide
  have go : ∀ q : Int, 0 ≤ q → q < 9 → ∃ x : Rat, RV.m__law_low [.int (c.fmod 13 - 6), .int (1 + q)] = .ok (rq x) ∧ Bt 4 x ∧ ∃ n d : Int, x = Rat.divInt n d ∧ 1 ≤ d ∧ d ≤ 9 ∧ n.natAbs ≤ 6 := fun q q0 q9 => by
    have b1 : (c.fmod 13 - 6).natAbs < 2 ^ 4 := by omega
    have b2 : (1 + q).natAbs < 2 ^ 4 := by omega
    exact ⟨_, low_eq (by omega) (p2 b1) (p2 b2), .of (by omega) b1 b2, _, _, rfl, by omega, by omega, by omega⟩
  unfold RV.m__law_small
  simp only [mDef_eq]
  unfold RV.b__law_small
  rcases e3 with e | e | e
  · obtain ⟨x, h, b⟩ := go 0 (by decide) (by decide)
    have h : RV.m__law_low [.int (c.fmod 13 - 6), .int 1] = .ok (rq x) := h
    exact ⟨x, by simp [hd, hd2, hm, e, h], b⟩
  · obtain ⟨x, h, b⟩ := go ((c.fdiv 13).fmod 4) (fmod_lt (by decide)).1 (by have := @fmod_lt (c.fdiv 13) 4 (by decide); omega)
    exact ⟨x, by simp [hd, hd2, hm, e, h], b⟩
  · obtain ⟨x, h, b⟩ := go ((c.fdiv 13).fmod 9) (fmod_lt (by decide)).1 (by have := @fmod_lt (c.fdiv 13) 9 (by decide); omega)
    exact ⟨x, by simp [hd, hd2, hm, e, h], b⟩
/-- the drawn numbers, as functions of the cell -/
noncomputable def smallR (c : Int) : Rat := (small_eq c).choose
theorem small_is (c : Int) : RV.m__law_small [.int c] = .ok (rq (smallR c)) := (small_eq c).choose_spec.1
theorem small_bt (c : Int) : Bt 4 (smallR c) := (small_eq c).choose_spec.2.1
theorem small_form (c : Int) : ∃ n d : Int, smallR c = Rat.divInt n d ∧ 1 ≤ d ∧ d ≤ 9 ∧ n.natAbs ≤ 6 := (small_eq c).choose_spec.2.2
def cellZ (ns : List Int) (k : Nat) : Int := ns.getD k (13 * k + 2)
theorem cell_is (ns : List Int) (k : Nat) (hk : k ≤ 1000) : RV.m__law_cell [.scr ns, .int k] = .ok (.int (cellZ ns k)) := cell_eq ns k hk
/-! ### sums -/
theorem bt_n {k : Nat} {x : Rat} (h : Bt k x) : x.num.natAbs < 2 ^ k := h.n
theorem sum_loop {k N : Nat} (hk : N * (k + 2) + 1 + k ≤ 13300) : ∀ (xs : List Rat) (j : Nat) (n d : Int) (l : D), Bts k xs → j + xs.length ≤ N → 0 < d → n.natAbs < 2 ^ (j * (k + 2) + 1) → d.natAbs < 2 ^ (j * (k + 2) + 1) →
    ∃ n' d' : Int, forL (bName 3) RV.b__law_sum_L0 (xs.map rq) [l, .int n, .int d, .non] = .nx [l, .int n', .int d', .non] ∧ 0 < d' ∧ Rat.divInt n' d' = Rat.divInt n d + xs.sum ∧ n'.natAbs < 2 ^ ((j + xs.length) * (k + 2) + 1) ∧ d'.natAbs < 2 ^ ((j + xs.length) * (k + 2) + 1)
  | [], j, n, d, l, _, _, hd, hn, hs => ⟨n, d, rfl, hd, by simp [Rat.add_zero], by simpa using hn, by simpa using hs⟩
  | x :: xs, j, n, d, l, hx, hl, hd, hn, hs => by
    have bx := hx x List.mem_cons_self
    have px := den_pos x
    simp only [List.length_cons] at hl
    have l1 : j * (k + 2) ≤ N * (k + 2) := Nat.mul_le_mul (by omega) (Nat.le_refl _)
    have m1 : CMulX n x.den := mx hn (nd bx) (by omega)
    have m2 : CMulX x.num d := mx bx.n hs (by omega)
    have m3 : CMulX d x.den := mx hs (nd bx) (by omega)
    have z1 := mul_bitsI hn (nd bx)
    have z2 := p2 (l := j * (k + 2) + 1 + k) (mul_bitsI bx.n hs) (by omega)
    have z3 := mul_bitsI hs (nd bx)
    have e : (j + 1) * (k + 2) + 1 = j * (k + 2) + 1 + k + 1 + 1 := by rw [Nat.add_mul]; omega
    have q1 : (n * x.den + x.num * d).natAbs < 2 ^ ((j + 1) * (k + 2) + 1) := p2 (add_bitsI z1 z2) (by omega)
    have q3 : (d * x.den).natAbs < 2 ^ ((j + 1) * (k + 2) + 1) := p2 z3 (by omega)
    have dp : 0 < d * (x.den : Int) := Int.mul_pos hd px
    obtain ⟨n', d', h1, h2, h3, h4, h5⟩ := sum_loop hk xs (j + 1) _ _ l (fun y hy => hx y (List.mem_cons_of_mem _ hy)) (by omega) dp q1 q3
    refine ⟨n', d', ?_, h2, ?_, by simpa [Nat.add_assoc, Nat.add_comm 1] using h4, by simpa [Nat.add_assoc, Nat.add_comm 1] using h5⟩
    · simp only [List.map_cons]
      rw [forL_cons]
      unfold RV.b__law_sum_L0
      simp [m1, m2, m3]
      unfold RV.b__law_sum_L0 at h1
      exact h1
    · rw [h3, List.sum_cons, ← Rat.add_assoc]
      congr 1
      have e2 : x = Rat.divInt x.num x.den := (Rat.num_divInt_den x).symm
      conv => rhs; rhs; rw [e2]
      rw [Rat.divInt_add_divInt _ _ (by omega) (by omega)]
theorem sum_eqN {k : Nat} {xs : List Rat} (h : Bts k xs) (hk : xs.length * (k + 2) + 1 + k ≤ 13300) : RV.m__law_sum [rql xs] = .ok (rq xs.sum) ∧ Bt (xs.length * (k + 2) + 1) xs.sum := by
  obtain ⟨n, d, h1, h2, h3, h4, h5⟩ := sum_loop hk xs 0 0 1 (rql xs) h (by omega) (by decide) (by simp) (by simp)
  rw [Nat.zero_add] at h4 h5
  have e := low_eq h2 (p2 h4 (by omega)) (p2 h5 (by omega))
  have e0 : Rat.divInt 0 1 + xs.sum = xs.sum := by rw [Rat.zero_divInt, Rat.zero_add]
  rw [e0] at h3
  rw [h3] at e
  refine ⟨?_, ?_⟩
  · unfold RV.m__law_sum
    rw [mDef_eq]
    unfold RV.b__law_sum
    simp [h1, e]
  · rw [← h3]
    exact .of (by omega) h4 h5
theorem small_bits {a k : Nat} (ha : a ≤ 16) (hk : k ≤ 700) : a * (k + 2) + 1 + k ≤ 13300 := by
  have : a * (k + 2) ≤ 16 * 702 := Nat.mul_le_mul ha (by omega)
  omega
theorem sum_eq {k : Nat} {xs : List Rat} (h : Bts k xs) (hk : k ≤ 700 := by decide) (hl : xs.length ≤ 16 := by simp) : RV.m__law_sum [rql xs] = .ok (rq xs.sum) := (sum_eqN h (small_bits hl hk)).1
theorem sum_bt {k : Nat} {xs : List Rat} (h : Bts k xs) (hk : k ≤ 700 := by decide) (hl : xs.length ≤ 16 := by simp) : Bt (xs.length * (k + 2) + 1) xs.sum := (sum_eqN h (small_bits hl hk)).2
theorem ltimes_eq {k l : Nat} {x y : Rat} (h1 : Bt k x) (h2 : Bt l y) (h : k + l ≤ 13400 := by decide) : RV.m__law_times [rq x, rq y] = .ok (rq (x * y)) := by
  unfold RV.m__law_times
  rw [mDef_eq]
  unfold RV.b__law_times
  have m1 := mx h1.n h2.n (by omega)
  have m3 := mx (nd h1) (nd h2) (by omega)
  have b1 := mul_bitsI h1.n h2.n
  have b3 := mul_bitsI (nd h1) (nd h2)
  have e := low_eq (n := x.num * y.num) (d := x.den * y.den) den_mul_pos (p2 b1 (by omega)) (p2 b3 (by omega))
  simp [m1, m3, e, mul_eqD]
/-! ### products -/
def dot (r v : List Rat) : Rat := ((List.range v.length).map fun i => at0 r i * at0 v i).sum
def mulv (rows : List (List Rat)) (v : List Rat) : List Rat := rows.map fun r => dot r v
theorem Bt.zero {k : Nat} (h : 0 < k) : Bt k 0 := ⟨Nat.two_pow_pos k, Nat.one_lt_two_pow (by omega)⟩
theorem Bts.at0 {k : Nat} {xs : List Rat} (h : Bts k xs) (i : Nat) (k0 : 0 < k := by decide) : Bt k (MR.at0 xs i) := by
  unfold MR.at0
  rw [List.getD_eq_getElem?_getD]
  cases q : xs[i]? with
  | none => exact .zero k0
  | some x => exact h x (List.mem_of_getElem? q)
theorem Bts.range {k n : Nat} {f : Nat → Rat} (h : ∀ i, i < n → Bt k (f i)) : Bts k ((List.range n).map f) := fun x hx => by
  obtain ⟨i, hi, rfl⟩ := List.mem_map.mp hx
  exact h i (List.mem_range.mp hi)
theorem lcL_from {α : Type} {a : ME} {b : MB} {μ : List Mode} {ρ : List D} {f g : α → D} : ∀ (xs : List α) (acc : List D), (∀ x ∈ xs, ∃ ρ1 ρ3, b (f x) ρ = some ρ1 ∧ a ρ1 = .ok (g x) ρ3 ∧ keep μ ρ3 = ρ) → acc.length + xs.length ≤ 1000000 →
    lcL b mYes a μ (xs.map f) acc ρ = .ok (.lst (acc ++ xs.map g)) ρ
  | [], acc, _, _ => by simp
  | x :: xs, acc, h, hl => by
    obtain ⟨ρ1, ρ3, h1, h2, h3⟩ := h x List.mem_cons_self
    simp only [List.length_cons] at hl
    show lcL b mYes a μ (f x :: xs.map f) acc ρ = _
    unfold lcL
    rw [h1]
    simp only [mYes_eq, h2]
    rw [if_pos (by omega), h3, lcL_from xs (acc ++ [g x]) (fun y hy => h y (List.mem_cons_of_mem _ hy)) (by simp; omega)]
    simp
theorem lcL_of {α : Type} {a : ME} {b : MB} {μ : List Mode} {ρ : List D} {f g : α → D} (xs : List α) (h : ∀ x ∈ xs, ∃ ρ1 ρ3, b (f x) ρ = some ρ1 ∧ a ρ1 = .ok (g x) ρ3 ∧ keep μ ρ3 = ρ) (hl : xs.length ≤ 1000000 := by first | omega | (simp; omega)) :
    lcL b mYes a μ (xs.map f) [] ρ = .ok (.lst (xs.map g)) ρ := lcL_from xs [] h (by simpa using hl)
/-- a comprehension over range(n) -/
theorem lcL_range {a : ME} {μ : List Mode} {ρ : List D} {i n : Nat} {g : Nat → D} (h : ∀ j, j < n → ∃ ρ3, a (ρ.set i (.int (j : Int))) = .ok (g j) ρ3 ∧ keep μ ρ3 = ρ) (hn : n ≤ 1000000 := by first | omega | (simp; omega)) :
    lcL (bName i) mYes a μ (ilist 0 n) [] ρ = .ok (.lst ((List.range n).map g)) ρ := by
  have := lcL_map (a := a) (b := bName i) (μ := μ) (ρ := ρ) (fun d => g d.nat) (ilist 0 n) (fun d hd => by
    obtain ⟨j, hj, rfl⟩ := mem_ilist hd
    rw [Int.zero_add]
    obtain ⟨ρ3, h1, h2⟩ := h j hj
    exact ⟨_, ρ3, rfl, by simpa [D.nat] using h1, h2⟩) (by simpa [ilist] using hn)
  rw [this, ilist_map (g := g) fun j _ => by simp [D.nat]]
theorem map_range_rq {n : Nat} {f : Nat → Rat} : (List.range n).map (fun i => rq (f i)) = ((List.range n).map f).map rq := by rw [List.map_map]; rfl
/-- .. where the element leaves the slots as they are -/
theorem lcR {a : ME} {μ : List Mode} {ρ : List D} {i n : Nat} (g : Nat → D) (h : ∀ j, j < n → a (ρ.set i (.int (j : Int))) = .ok (g j) (ρ.set i (.int (j : Int)))) (hn : n ≤ 1000000 := by first | omega | (simp; omega)) (hk : ∀ d, keep μ (ρ.set i d) = ρ := by intro _; rfl) :
    lcL (bName i) mYes a μ (ilist 0 n) [] ρ = .ok (.lst ((List.range n).map g)) ρ := lcL_range (fun j hj => ⟨_, h j hj, hk _⟩) hn
theorem lcX {α : Type} {a : ME} {μ : List Mode} {ρ : List D} {i : Nat} {f : α → D} (g : α → D) (xs : List α) (h : ∀ x ∈ xs, a (ρ.set i (f x)) = .ok (g x) (ρ.set i (f x))) (hl : xs.length ≤ 1000000 := by first | omega | (simp; omega)) (hk : ∀ d, keep μ (ρ.set i d) = ρ := by intro _; rfl) :
    lcL (bName i) mYes a μ (xs.map f) [] ρ = .ok (.lst (xs.map g)) ρ := lcL_of xs (fun x hx => ⟨_, _, rfl, h x hx, hk _⟩) hl
theorem dot_btN {k l : Nat} {r v : List Rat} (hr : Bts k r) (hv : Bts l v) (k0 : 0 < k) (l0 : 0 < l) (hk : v.length * (k + l + 2) + 1 + (k + l) ≤ 13300) : Bt (v.length * (k + l + 2) + 1) (dot r v) := by
  have := (sum_eqN (k := k + l) (xs := (List.range v.length).map fun i => at0 r i * at0 v i) (.range fun i _ => (hr.at0 i k0).mul (hv.at0 i l0)) (by simpa using hk)).2
  simpa [dot] using this
theorem dot_bt {k : Nat} {r v : List Rat} (hr : Bts k r) (hv : Bts k v) (k0 : 0 < k := by decide) (hk : k + k ≤ 700 := by decide) (hl : v.length ≤ 16 := by omega) : Bt (v.length * (k + k + 2) + 1) (dot r v) := dot_btN hr hv k0 k0 (small_bits hl hk)
theorem at0_range {n m : Nat} {g : Nat → Rat} (h : m < n) : at0 ((List.range n).map g) m = g m := by
  unfold at0
  rw [List.getD_eq_getElem?_getD, List.getElem?_map, List.getElem?_range h]
  rfl
theorem lproduct_eqN {k l : Nat} {rows : List (List Rat)} {v : List Rat} (hr : ∀ r ∈ rows, Bts k r ∧ v.length ≤ r.length) (hv : Bts l v) (k0 : 0 < k) (l0 : 0 < l) (hk : v.length * (k + l + 2) + 1 + (k + l) ≤ 13300) (hl : v.length ≤ 1000) (hn : rows.length ≤ 1000) :
    RV.m__law_product [rqm rows, rql v] = .ok (rql (mulv rows v)) := by
  have c1 : (v.length : Int) ≤ 1000000 := by omega
  have c2 : -1000000 ≤ (v.length : Int) := by omega
  have inner : ∀ r ∈ rows, RV.b__law_product_C1 [rqm rows, rql v, rql r, .non] = .ok (rql ((List.range v.length).map fun i => at0 r i * at0 v i)) [rqm rows, rql v, rql r, .non] := by
    intro r hm
    obtain ⟨b, le⟩ := hr r hm
    unfold RV.b__law_product_C1
    simp [c1, c2]
    rw [lcL_range (g := fun i => rq (at0 r i * at0 v i)), rql_range]
    intro j hj
    have t := ltimes_eq (b.at0 j k0) (hv.at0 j l0) (by omega)
    exact ⟨[rqm rows, rql v, rql r, .int j], by unfold RV.b__law_product_C1e; simp [ix_rql (xs := r) (i := j) (by omega), ix_rql hj, t], rfl⟩
  have outer : RV.b__law_product_C0 [rqm rows, rql v, .non, .non] = .ok (rql (mulv rows v)) [rqm rows, rql v, .non, .non] := by
    unfold RV.b__law_product_C0
    simp
    rw [lcL_of (g := fun r => rq (dot r v)) rows, rql_map]
    · rfl
    intro r hm
    have t := (sum_eqN (k := k + l) (xs := (List.range v.length).map fun i => at0 r i * at0 v i) (.range fun i _ => ((hr r hm).1.at0 i k0).mul (hv.at0 i l0)) (by simpa using hk)).1
    have i1 := inner r hm
    refine ⟨_, [rqm rows, rql v, rql r, .non], rfl, ?_, rfl⟩
    unfold RV.b__law_product_C0e
    simp [i1, t, dot]
  unfold RV.m__law_product
  rw [mDef_eq]
  unfold RV.b__law_product
  simp [outer]
theorem lproduct_eq {k : Nat} {rows : List (List Rat)} {v : List Rat} (hr : ∀ r ∈ rows, Bts k r ∧ v.length ≤ r.length) (hv : Bts k v) (k0 : 0 < k := by decide) (hk : k + k ≤ 700 := by decide) (hl : v.length ≤ 16 := by omega) (hn : rows.length ≤ 1000 := by omega) :
    RV.m__law_product [rqm rows, rql v] = .ok (rql (mulv rows v)) := lproduct_eqN hr hv k0 k0 (small_bits hl hk) (by omega) hn
theorem zip_at {r v : List Rat} (h : v.length = r.length) : List.zipWith (fun u w => D.tup [u, w]) (r.map rq) (v.map rq) = (List.range v.length).map fun i => D.tup [rq (at0 r i), rq (at0 v i)] := by
  refine List.ext_getElem (by simp [h]) fun i h1 h2 => ?_
  have i1 : i < v.length := by simpa using h2
  have i2 : i < r.length := by omega
  simp [at0, List.getElem?_eq_getElem i1, List.getElem?_eq_getElem i2]
theorem sum_snoc (xs : List Rat) (y : Rat) : (xs ++ [y]).sum = xs.sum + y := by
  induction xs with
  | nil => simp [Rat.add_zero, Rat.zero_add]
  | cons x xs ih => rw [List.cons_append, List.sum_cons, List.sum_cons, ih, Rat.add_assoc]
/-- the sums that the program's product builds, step by step -/
theorem psum_loop {k l N : Nat} (k0 : 0 < k) (l0 : 0 < l) (hk : N * (k + l + 2) + 1 + (k + l) ≤ 13300) {rows : List (List Rat)} {r v : List Rat} {acc : D} (hr : Bts k r) (hv : Bts l v) : ∀ (n i : Nat) (s : Rat), i + n ≤ N → Bt (i * (k + l + 2) + 1) s →
    forL (bTup 2 (bCons (bName 5) (bCons (bName 6) bNil))) RV.b_product_L1 ((List.range' i n).map fun i => D.tup [rq (at0 r i), rq (at0 v i)]) [rqm rows, rql v, acc, rql r, rq s, .non, .non] = .nx [rqm rows, rql v, acc, rql r, rq (s + ((List.range' i n).map fun i => at0 r i * at0 v i).sum), .non, .non]
  | 0, i, s, _, _ => by simp [Rat.add_zero]
  | n + 1, i, s, hn, hb => by
    have b1 := (hr.at0 i k0).mul (hv.at0 i l0)
    have l1 : i * (k + l + 2) ≤ N * (k + l + 2) := Nat.mul_le_mul (by omega) (Nat.le_refl _)
    have t := times_eq (hr.at0 i k0) (hv.at0 i l0) (by omega)
    have ad := add_eq hb b1 (by omega)
    have e : (i + 1) * (k + l + 2) + 1 = i * (k + l + 2) + 1 + (k + l) + 1 + 1 := by rw [Nat.add_mul]; omega
    have b2 : Bt ((i + 1) * (k + l + 2) + 1) (s + at0 r i * at0 v i) := (hb.addl b1).mono (by omega)
    have ih := psum_loop k0 l0 hk (rows := rows) (acc := acc) hr hv n (i + 1) _ (by omega) b2
    rw [List.range'_succ, List.map_cons, List.map_cons, forL_cons, List.sum_cons, ← Rat.add_assoc]
    unfold RV.b_product_L1 at ih ⊢
    simp [t, ad]
    exact ih
theorem prow {k l : Nat} {rows : List (List Rat)} {r v acc : List Rat} (hr : Bts k r) (hv : Bts l v) (le : v.length = r.length) (k0 : 0 < k) (l0 : 0 < l) (hk : v.length * (k + l + 2) + 1 + (k + l) ≤ 13300) (ha : acc.length < 1000) :
    RV.b_product_L0 [rqm rows, rql v, rql acc, rql r, .non, .non, .non] = .nx [rqm rows, rql v, rql (acc ++ [dot r v]), .non, .non, .non, .non] := by
  have lp := psum_loop k0 l0 hk (rows := rows) (acc := rql acc) hr hv v.length 0 0 (by omega) (by simpa using Bt.zero (k := 1) (by decide))
  rw [Rat.zero_add, ← List.range_eq_range'] at lp
  have z : D.tup [.int 0, .int 1] = rq 0 := rfl
  have ha' : acc.length < 1000000 := by omega
  unfold RV.b_product_L0
  simp [zip2, zip_at le, z, lp, ha', rql_snoc]
  rfl
theorem product_eqN {k l : Nat} {rows : List (List Rat)} {v : List Rat} (hr : ∀ r ∈ rows, Bts k r ∧ v.length = r.length) (hv : Bts l v) (k0 : 0 < k) (l0 : 0 < l) (hk : v.length * (k + l + 2) + 1 + (k + l) ≤ 13300) (hn : rows.length ≤ 900) :
    RV.m_product [rqm rows, rql v] = .ok (rql (mulv rows v)) := by
  have go : ∀ (rs : List (List Rat)) (acc : List Rat), (∀ r ∈ rs, Bts k r ∧ v.length = r.length) → acc.length + rs.length ≤ 900 → forL (bName 3) RV.b_product_L0 (rs.map rql) [rqm rows, rql v, rql acc, .non, .non, .non, .non] = .nx [rqm rows, rql v, rql (acc ++ mulv rs v), .non, .non, .non, .non] := by
    intro rs
    induction rs with
    | nil => intro acc _ _; simp [mulv]
    | cons r rs ih =>
      intro acc h hn
      simp only [List.length_cons] at hn
      have h1 := h r List.mem_cons_self
      rw [List.map_cons, forL_cons]
      have p := prow (rows := rows) (acc := acc) h1.1 hv h1.2 k0 l0 hk (by omega)
      simp [p]
      rw [ih _ (fun r' hr' => h r' (List.mem_cons_of_mem _ hr')) (by simp; omega)]
      simp [mulv]
  have g := go rows [] hr (by simpa using hn)
  unfold RV.m_product
  rw [mDef_eq]
  unfold RV.b_product
  simp [rql_nil, g]
theorem product_eq {k : Nat} {rows : List (List Rat)} {v : List Rat} (hr : ∀ r ∈ rows, Bts k r ∧ v.length = r.length) (hv : Bts k v) (k0 : 0 < k := by decide) (hk : k + k ≤ 700 := by decide) (hl : v.length ≤ 16 := by omega) (hn : rows.length ≤ 900 := by omega) :
    RV.m_product [rqm rows, rql v] = .ok (rql (mulv rows v)) := product_eqN hr hv k0 k0 (small_bits hl hk) hn
/-- a comprehension over range(n) with a test -/
theorem lcRf_aux {t : MT} {a : ME} {μ : List Mode} {ρ : List D} {i : Nat} (p : Nat → Bool) (g : Nat → D) (hk : ∀ d, keep μ (ρ.set i d) = ρ) : ∀ (xs : List Nat) (acc : List D), (∀ j ∈ xs, t (ρ.set i (.int (j : Int))) = .ok (p j) (ρ.set i (.int (j : Int))) ∧ (p j = true → a (ρ.set i (.int (j : Int))) = .ok (g j) (ρ.set i (.int (j : Int))))) → acc.length + xs.length ≤ 1000000 →
    lcL (bName i) t a μ (xs.map fun (j : Nat) => D.int (0 + (j : Int))) acc ρ = .ok (.lst (acc ++ (xs.filter p).map g)) ρ
  | [], acc, _, _ => by simp
  | j :: xs, acc, h, hl => by
    obtain ⟨h1, h2⟩ := h j List.mem_cons_self
    simp only [List.length_cons] at hl
    rw [List.map_cons]
    unfold lcL
    rw [bName_eq, Int.zero_add]
    simp only [h1]
    cases q : p j with
    | false =>
      simp only
      rw [hk, lcRf_aux p g hk xs acc (fun x hx => h x (List.mem_cons_of_mem _ hx)) (by omega)]
      simp [q]
    | true =>
      simp only [h2 q]
      rw [if_pos (by omega), hk, lcRf_aux p g hk xs (acc ++ [g j]) (fun x hx => h x (List.mem_cons_of_mem _ hx)) (by simp; omega)]
      simp [q]
theorem lcRf {t : MT} {a : ME} {μ : List Mode} {ρ : List D} {i n : Nat} (p : Nat → Bool) (g : Nat → D) (h : ∀ j, j < n → t (ρ.set i (.int (j : Int))) = .ok (p j) (ρ.set i (.int (j : Int))) ∧ (p j = true → a (ρ.set i (.int (j : Int))) = .ok (g j) (ρ.set i (.int (j : Int))))) (hn : n ≤ 1000000 := by first | omega | (simp; omega)) (hk : ∀ d, keep μ (ρ.set i d) = ρ := by intro _; rfl) :
    lcL (bName i) t a μ (ilist 0 n) [] ρ = .ok (.lst (((List.range n).filter p).map g)) ρ := by
  rw [show ilist 0 n = (List.range n).map fun (j : Nat) => D.int (0 + (j : Int)) from rfl, lcRf_aux p g hk (List.range n) [] (fun j hj => h j (List.mem_range.mp hj)) (by simpa using hn)]
  rfl
/-- without its sign -/
def ra (x : Rat) : Rat := if x < 0 then -x else x
theorem num_neg_iff {x : Rat} : x.num < 0 ↔ x < 0 := by
  have := Rat.lt_iff x 0
  simp at this
  exact this.symm
theorem rq_abs {x : Rat} : (.tup [.int (x.num.natAbs : Int), .int x.den] : D) = rq (ra x) := by
  unfold ra
  by_cases h : x < 0
  · have h2 : x.num < 0 := num_neg_iff.mpr h
    rw [if_pos h]
    simp only [rq, Rat.neg_num, Rat.neg_den]
    rw [show ((x.num.natAbs : Nat) : Int) = -x.num by omega]
  · have h2 : ¬ x.num < 0 := fun z => h (num_neg_iff.mp z)
    rw [if_neg h]
    rw [show ((x.num.natAbs : Nat) : Int) = x.num by omega]
theorem rq_neg {x : Rat} : (.tup [.int (0 - x.num), .int x.den] : D) = rq (-x) := by
  simp only [rq, Rat.neg_num, Rat.neg_den, Int.zero_sub]
theorem ra_bt {k : Nat} {x : Rat} (h : Bt k x) : Bt k (ra x) := by
  unfold ra
  split
  · exact ⟨by simpa using h.n, h.d⟩
  · exact h
theorem ra_nonneg (x : Rat) : 0 ≤ ra x := by
  unfold ra
  split <;> grind
theorem ra_neg (x : Rat) : ra (-x) = ra x := by
  unfold ra
  split <;> split <;> grind
theorem ra_zero {x : Rat} : ra x = 0 ↔ x = 0 := by
  unfold ra
  split <;> grind
theorem ra_mul (x y : Rat) : ra (x * y) = ra x * ra y := by
  have h1 : ∀ a b : Rat, 0 ≤ a → 0 ≤ b → 0 ≤ a * b := fun a b => Rat.mul_nonneg
  unfold ra
  by_cases hx : x < 0
  · by_cases hy : y < 0
    · have := h1 (-x) (-y) (by grind) (by grind)
      have e : ¬ x * y < 0 := by grind
      simp [hx, hy, e]
      grind
    · have := h1 (-x) y (by grind) (by grind)
      by_cases e : x * y < 0
      · simp [hx, hy, e]; grind
      · simp [hx, hy, e]; grind
  · by_cases hy : y < 0
    · have := h1 x (-y) (by grind) (by grind)
      by_cases e : x * y < 0
      · simp [hx, hy, e]; grind
      · simp [hx, hy, e]; grind
    · have := h1 x y (by grind) (by grind)
      have e : ¬ x * y < 0 := by grind
      simp [hx, hy, e]
theorem ra_add (x y : Rat) : ra (x + y) ≤ ra x + ra y := by
  unfold ra
  split <;> split <;> split <;> grind
end MR

set_option Elab.async false
set_option linter.all false
set_option maxRecDepth 100000
set_option maxHeartbeats 1000000
/-! PS: the program's solve: rows of ratios over a common denominator; what solve tells. -/
namespace MR
open PySem L2
/-! ### ratios over a denominator -/
/-- x is m / D with |m| below 2^b -/
def Cd (D b : Nat) (x : Rat) : Prop := ∃ m : Int, x = Rat.divInt m D ∧ m.natAbs < 2 ^ b
theorem Cd.bt {D b : Nat} {x : Rat} (h : Cd D b x) (h0 : 0 < D) (hD : D < 2 ^ b) : Bt b x := by
  obtain ⟨m, rfl, hm⟩ := h
  exact .of (by omega) hm (by simpa using hD)
/-- a row: all its parts over one denominator below 2^b -/
def Rw (b n : Nat) (f : Nat → Rat) : Prop := ∃ D : Nat, 0 < D ∧ D < 2 ^ b ∧ ∀ c, c < n → Cd D b (f c)
theorem Rw.bt {b n : Nat} {f : Nat → Rat} (h : Rw b n f) {c : Nat} (hc : c < n) : Bt b (f c) := by
  obtain ⟨D, h0, hD, hf⟩ := h
  exact (hf c hc).bt h0 hD
theorem Rw.mono {b d n : Nat} {f : Nat → Rat} (h : Rw b n f) (e : b ≤ d) : Rw d n f := by
  obtain ⟨D, h0, hD, hf⟩ := h
  refine ⟨D, h0, p2 hD e, fun c hc => ?_⟩
  obtain ⟨m, e1, e2⟩ := hf c hc
  exact ⟨m, e1, p2 e2 e⟩
theorem elim_key (d1 d2 w s v a u : Rat) (h1 : d1 ≠ 0) (h2 : d2 ≠ 0) (h3 : w ≠ 0) (h4 : s ≠ 0) : v / d1 - (a / d1) / (w / d2) * (u / d2) = s * (v * w - a * u) / (d1 * (s * w)) := by grind
/-- a row less a multiple of another one -/
theorem Rw.elim {b n at' : Nat} {f g : Nat → Rat} (hf : Rw b n f) (hg : Rw b n g) (ha : at' < n) (h0 : g at' ≠ 0) : Rw (b + b + 1) n fun c => f c - f at' / g at' * g c := by
  obtain ⟨D, D0, hD, hF⟩ := hf
  obtain ⟨D', D0', hD', hG⟩ := hg
  obtain ⟨a, ea, ha1⟩ := hF at' ha
  obtain ⟨w, ew, hw⟩ := hG at' ha
  have w0 : w ≠ 0 := fun z => h0 (by rw [ew, z, Rat.zero_divInt])
  have hDw : D * w.natAbs < 2 ^ (b + b + 1) := p2 (mul_bits hD hw) (by omega)
  refine ⟨D * w.natAbs, Nat.mul_pos D0 (by omega), hDw, fun c hc => ?_⟩
  obtain ⟨v, ev, hv⟩ := hF c hc
  obtain ⟨u, eu, hu⟩ := hG c hc
  obtain ⟨s, hs, es⟩ : ∃ s : Int, (s = 1 ∨ s = -1) ∧ (w.natAbs : Int) = s * w := by
    by_cases h : 0 < w
    · exact ⟨1, .inl rfl, by omega⟩
    · exact ⟨-1, .inr rfl, by omega⟩
  refine ⟨s * (v * w - a * u), ?_, ?_⟩
  · show f c - f at' / g at' * g c = _
    rw [ev, ea, ew, eu]
    have hn : ∀ (x : Int) (y : Int), Rat.divInt x y = (x : Rat) / (y : Rat) := Rat.divInt_eq_div
    have e3 : ((D * w.natAbs : Nat) : Int) = (D : Int) * (s * w) := by rw [Int.natCast_mul, es]
    rw [e3]
    simp only [hn]
    have dD : ((D : Int) : Rat) ≠ 0 := fun z => by
      have : (D : Int) = 0 := by exact_mod_cast z
      omega
    have dD' : ((D' : Int) : Rat) ≠ 0 := fun z => by
      have : (D' : Int) = 0 := by exact_mod_cast z
      omega
    have dw : (w : Rat) ≠ 0 := fun z => w0 (by exact_mod_cast z)
    have ds : (s : Rat) ≠ 0 := fun z => by
      have : s = 0 := by exact_mod_cast z
      omega
    have c1 : ((s * (v * w - a * u) : Int) : Rat) = (s : Rat) * ((v : Rat) * w - a * u) := by push_cast; rfl
    have c2 : (((D : Int) * (s * w) : Int) : Rat) = ((D : Int) : Rat) * ((s : Rat) * w) := by push_cast; rfl
    rw [c1, c2]
    exact elim_key _ _ _ _ _ _ _ dD dD' dw ds
  · have z1 := mul_bitsI hv hw
    have z2 := mul_bitsI ha1 hu
    have z3 := sub_bitsI z1 z2
    rcases hs with rfl | rfl
    · rw [Int.one_mul]; exact z3
    · rw [Int.neg_one_mul, Int.natAbs_neg]; exact z3
/-! ### sums over columns -/
def sm (n : Nat) (f : Nat → Rat) : Rat := ((List.range n).map f).sum
theorem sm_zero (f : Nat → Rat) : sm 0 f = 0 := rfl
theorem sm_succ (n : Nat) (f : Nat → Rat) : sm (n + 1) f = sm n f + f n := by
  unfold sm
  rw [List.range_succ, List.map_append, List.map_singleton, sum_snoc]
theorem sm_congr {n : Nat} {f g : Nat → Rat} (h : ∀ c, c < n → f c = g c) : sm n f = sm n g := by
  unfold sm
  congr 1
  exact List.map_congr_left fun c hc => h c (List.mem_range.mp hc)
theorem sm_none {n : Nat} {f : Nat → Rat} (h : ∀ c, c < n → f c = 0) : sm n f = 0 := by
  induction n with
  | zero => rfl
  | succ n ih => rw [sm_succ, ih fun c hc => h c (by omega), h n (by omega), Rat.add_zero]
theorem sm_one {n i : Nat} {f : Nat → Rat} (hi : i < n) (h : ∀ c, c < n → c ≠ i → f c = 0) : sm n f = f i := by
  induction n with
  | zero => omega
  | succ n ih =>
    rw [sm_succ]
    by_cases e : i = n
    · subst e
      rw [sm_none fun c hc => h c (by omega) (by omega), Rat.zero_add]
    · rw [ih (by omega) fun c hc => h c (by omega), h n (by omega) (fun z => e z.symm), Rat.add_zero]
theorem sm_sub_mul {n : Nat} {f g z : Nat → Rat} {k : Rat} : sm n (fun c => (f c - k * g c) * z c) = sm n (fun c => f c * z c) - k * sm n (fun c => g c * z c) := by
  induction n with
  | zero => rw [sm_zero, sm_zero, sm_zero]; grind
  | succ n ih => rw [sm_succ, sm_succ, sm_succ, ih]; grind
/-! ### tables -/
abbrev Tb := Nat → Nat → Rat
def Hom (n : Nat) (T : Tb) (z : Nat → Rat) : Prop := ∀ r, r < n → sm (n + 1) (fun c => T r c * z c) = 0
def swapT (T : Tb) (i j : Nat) : Tb := fun r => if r = i then T j else if r = j then T i else T r
def elimT (T : Tb) (i k : Nat) : Tb := fun r => if r ≠ i ∧ r < k then fun c => T r c - T r i / T i i * T i c else T r
theorem hom_swap {n i j : Nat} {T : Tb} {z : Nat → Rat} (hi : i < n) (hj : j < n) : Hom n (swapT T i j) z ↔ Hom n T z := by
  constructor
  · intro h r hr
    by_cases e : r = i
    · have := h j hj
      unfold swapT at this
      by_cases e2 : j = i
      · subst e2; subst e; simpa using this
      · simp [e2] at this; rw [e]; exact this
    · by_cases e2 : r = j
      · have := h i hi
        unfold swapT at this
        simp at this
        rw [e2]; exact this
      · have := h r hr
        unfold swapT at this
        simpa [e, e2] using this
  · intro h r hr
    unfold swapT
    by_cases e : r = i
    · simp [e]; exact h j hj
    · by_cases e2 : r = j
      · simp [e, e2]
        split
        · exact h j hj
        · exact h i hi
      · simp [e, e2]; exact h r hr
theorem hom_elim {n i : Nat} {T : Tb} {z : Nat → Rat} (hi : i < n) : Hom n (elimT T i n) z ↔ Hom n T z := by
  have own : ∀ c, elimT T i n i c = T i c := fun c => by simp [elimT]
  constructor
  · intro h
    have h0 : sm (n + 1) (fun c => T i c * z c) = 0 := by
      have := h i hi
      rw [sm_congr (g := fun c => T i c * z c) fun c _ => by rw [own]] at this
      exact this
    intro r hr
    by_cases e : r = i
    · rw [e]; exact h0
    · have := h r hr
      rw [sm_congr (g := fun c => (T r c - T r i / T i i * T i c) * z c) fun c _ => by simp [elimT, e, hr], sm_sub_mul, h0] at this
      grind
  · intro h r hr
    by_cases e : r = i
    · rw [sm_congr (g := fun c => T i c * z c) fun c _ => by rw [e, own]]
      exact h i hi
    · rw [sm_congr (g := fun c => (T r c - T r i / T i i * T i c) * z c) fun c _ => by simp [elimT, e, hr], sm_sub_mul, h r hr, h i hi]
      grind
/-! ### the table as data -/
def rowL (n : Nat) (f : Nat → Rat) : List Rat := (List.range n).map f
def tabL (n : Nat) (T : Tb) : List (List Rat) := (List.range n).map fun r => rowL (n + 1) (T r)
theorem rowL_len {n : Nat} {f : Nat → Rat} : (rowL n f).length = n := by simp [rowL]
theorem tabL_len {n : Nat} {T : Tb} : (tabL n T).length = n := by simp [tabL]
theorem rowL_at {n c : Nat} {f : Nat → Rat} (h : c < n) : at0 (rowL n f) c = f c := at0_range h
theorem tabL_row {n r : Nat} {T : Tb} (h : r < n) : row (tabL n T) r = rowL (n + 1) (T r) := by
  unfold row tabL
  rw [List.getD_eq_getElem?_getD, List.getElem?_map, List.getElem?_range h]
  rfl
theorem rowL_congr {n : Nat} {f g : Nat → Rat} (h : ∀ c, c < n → f c = g c) : rowL n f = rowL n g := List.map_congr_left fun c hc => h c (List.mem_range.mp hc)
theorem tabL_congr {n : Nat} {T U : Tb} (h : ∀ r, r < n → T r = U r) : tabL n T = tabL n U := List.map_congr_left fun r hr => by rw [h r (List.mem_range.mp hr)]
theorem tabL_set {n i : Nat} {T : Tb} {f : Nat → Rat} (h : i < n) : (tabL n T).set i (rowL (n + 1) f) = tabL n (fun r => if r = i then f else T r) := by
  unfold tabL
  refine List.ext_getElem (by simp) fun j h1 h2 => ?_
  have hj : j < n := by simpa using h2
  rw [List.getElem_set]
  by_cases e : i = j
  · subst e; simp
  · simp [e, show j ≠ i from fun z => e z.symm]
theorem rqm_set {n i : Nat} {T : Tb} {f : Nat → Rat} (h : i < n) : D.lst (((tabL n T).map rql).set i (rql (rowL (n + 1) f))) = rqm (tabL n (fun r => if r = i then f else T r)) := by
  rw [← tabL_set h]
  unfold rqm
  rw [List.map_set]
theorem ix_tab {n r : Nat} {T : Tb} (h : r < n) : fIx (D.lst ((tabL n T).map rql)) (.int r) = some (rql (rowL (n + 1) (T r))) := by
  have := ix_rqm (xs := tabL n T) (i := r) (by rw [tabL_len]; exact h)
  rw [tabL_row h] at this
  exact this
theorem ix_rowL {n c : Nat} {f : Nat → Rat} (h : c < n) : fIx (rql (rowL n f)) (.int c) = some (rq (f c)) := by
  have := ix_rql (xs := rowL n f) (i := c) (by rw [rowL_len]; exact h)
  rw [rowL_at h] at this
  exact this
theorem ixO_tab {n r : Nat} {T : Tb} (h : r < n) : fIxO (rqm (tabL n T)) (.int r) = some (rql (rowL (n + 1) (T r))) := ix_tab h
@[simp] theorem lenO_rqm {xs : List (List Rat)} {ρ : List D} : lenO (rqm xs) ρ = .ok (.int xs.length) ρ := by unfold rqm; simp
/-- without_column -/
theorem without_eq {b n i : Nat} {f g : Nat → Rat} (hf : Rw b n f) (hg : Rw b n g) (hi : i < n) (h0 : g i ≠ 0) (hb : b + b + b + b ≤ 13300) (hn : n ≤ 1000) : RV.m_without_column [rql (rowL n f), rql (rowL n g), .int i] = .ok (rql (rowL n fun c => f c - f i / g i * g c)) := by
  have o := over_eq (hf.bt hi) (hg.bt hi) h0 (by omega)
  have bp := (hf.bt hi).div (hg.bt hi) h0
  have zl : List.zipWith (fun u v => D.tup [u, v]) ((rowL n f).map rq) ((rowL n g).map rq) = (List.range n).map fun c => D.tup [rq (f c), rq (g c)] := by
    refine List.ext_getElem (by simp [rowL]) fun c h1 h2 => ?_
    simp [rowL]
  have cc : RV.b_without_column_C0 [rql (rowL n f), rql (rowL n g), .int i, rq (f i / g i), .non, .non] = .ok (rql (rowL n fun c => f c - f i / g i * g c)) [rql (rowL n f), rql (rowL n g), .int i, rq (f i / g i), .non, .non] := by
    unfold RV.b_without_column_C0
    simp [zip2, zl]
    rw [lcL_of (f := fun c => D.tup [rq (f c), rq (g c)]) (g := fun c => rq (f c - f i / g i * g c)) (List.range n), rql_range]
    · rfl
    · intro c hc
      have hc := List.mem_range.mp hc
      have t := times_eq bp (hg.bt hc) (by omega)
      have sb := sub_eq (hf.bt hc) (bp.mul (hg.bt hc)) (by omega)
      refine ⟨_, [rql (rowL n f), rql (rowL n g), .int i, rq (f i / g i), rq (f c), rq (g c)], rfl, ?_, rfl⟩
      unfold RV.b_without_column_C0e
      simp [t, sb]
  unfold RV.m_without_column
  rw [mDef_eq]
  unfold RV.b_without_column
  simp [ix_rowL hi, o, cc]
/-! ### one column -/
/-- the slots of solve's loop -/
abbrev sl (t a p o : D) : List D := [.non, .non, t, a, p, o, .non, .non]
def bWh : MT := (mAnd (mCmpT fLt (mVar 4) (mLenO 2)) (mCmpT fEq (mOp fIx (mIxO 2 (mVar 4)) (mVar 3)) (mC (.tup [(.int 0), (.int 1)]))))
theorem zero_rq : (.tup [.int 0, .int 1] : D) = rq 0 := rfl
theorem pivot_loop {n i : Nat} {T : Tb} (hi : i < n) : ∀ (k p : Nat), p + k = n → ∀ fuel, k < fuel → ∃ q : Nat, whileN bWh RV.b_solve_L1 fuel (sl (rqm (tabL n T)) (.int i) (.int p) .non) = .nx (sl (rqm (tabL n T)) (.int i) (.int q) .non) ∧ p ≤ q ∧ q ≤ n ∧ (∀ r, p ≤ r → r < q → T r i = 0) ∧ (q < n → T q i ≠ 0)
  | k, p, hk, 0, hf => by omega
  | 0, p, hk, fuel + 1, hf => by
    have e : p = n := by omega
    subst e
    refine ⟨p, ?_, Nat.le_refl _, Nat.le_refl _, fun r h1 h2 => by omega, fun h => by omega⟩
    rw [whileN_succ]
    have c1 : bWh (sl (rqm (tabL p T)) (.int i) (.int p) .non) = .ok false (sl (rqm (tabL p T)) (.int i) (.int p) .non) := by
      unfold bWh
      simp [tabL_len]
    rw [c1]
    rfl
  | k + 1, p, hk, fuel + 1, hf => by
    have hp : p < n := by omega
    have c1 : bWh (sl (rqm (tabL n T)) (.int i) (.int p) .non) = .ok (decide (T p i = 0)) (sl (rqm (tabL n T)) (.int i) (.int p) .non) := by
      unfold bWh
      simp [tabL_len, hp, ixO_tab hp, ix_rowL (show i < n + 1 by omega), zero_rq]
    rw [whileN_succ, c1]
    by_cases h : T p i = 0
    · obtain ⟨q, h1, h2, h3, h4, h5⟩ := pivot_loop hi k (p + 1) (by omega) fuel (by omega)
      refine ⟨q, ?_, by omega, h3, fun r r1 r2 => ?_, h5⟩
      · rw [decide_eq_true h, wh_t]
        have : RV.b_solve_L1 (sl (rqm (tabL n T)) (.int i) (.int p) .non) = .nx (sl (rqm (tabL n T)) (.int i) (.int (p + 1 : Nat)) .non) := by
          unfold RV.b_solve_L1
          simp
        rw [this, loop_nx]
        exact h1
      · by_cases e : r = p
        · rw [e]; exact h
        · exact h4 r (by omega) r2
    · refine ⟨p, ?_, Nat.le_refl _, by omega, fun r h1 h2 => by omega, fun _ => h⟩
      rw [decide_eq_false h, wh_f]
theorem set_tab {n i : Nat} {T : Tb} {f : Nat → Rat} (h : i < n) : setD ((tabL n T).map rql) (i : Int) (rql (rowL (n + 1) f)) = some (((tabL n T).map rql).set i (rql (rowL (n + 1) f))) := setD_nat (by simp [tabL_len]; exact h)
theorem swap_step {n i q : Nat} {T : Tb} (hi : i < n) (hq : q < n) :
    mAsgT (bTup 2 (bCons (bSetO 2 (mVar 3)) (bCons (bSetO 2 (mVar 4)) bNil))) (mTup (mCons (mIxO 2 (mVar 4)) (mCons (mIxO 2 (mVar 3)) mNil))) (sl (rqm (tabL n T)) (.int i) (.int q) .non) = .nx (sl (rqm (tabL n (swapT T i q))) (.int i) (.int q) .non) := by
  have e : tabL n (fun r => if r = q then T i else if r = i then T q else T r) = tabL n (swapT T i q) := tabL_congr fun r _ => by
    unfold swapT
    by_cases h1 : r = i
    · by_cases h2 : r = q
      · subst h1; subst h2; simp
      · simp [h1, h2]
        intro h3
        exact absurd (h1.trans h3) h2
    · simp [h1]
  rw [← e]
  simp [ixO_tab hi, ixO_tab hq, set_tab hi, rqm_set hi]
  rw [set_tab hq]
  simp [rqm_set hq]
theorem elim_row {b n i k : Nat} {T : Tb} (hi : i < n) (hk : k < n) (h0 : T i i ≠ 0) (hR : ∀ r, r < n → Rw b (n + 1) (T r)) (hb : b + b + b + b ≤ 13300) (hn : n ≤ 900) :
    RV.b_solve_L2 (sl (rqm (tabL n (elimT T i k))) (.int i) .non (.int k)) = .nx (sl (rqm (tabL n (elimT T i (k + 1)))) (.int i) .non .non) := by
  have ek : elimT T i k k = T k := by simp [elimT]
  have ei : elimT T i k i = T i := by simp [elimT]
  unfold RV.b_solve_L2
  by_cases h : k = i
  · have e : tabL n (elimT T i (k + 1)) = tabL n (elimT T i k) := tabL_congr fun r _ => by
      unfold elimT
      by_cases h1 : r = i
      · simp [h1]
      · have : (r < k + 1) = (r < k) := by
          apply propext
          omega
        simp [h1, this]
    rw [e]
    simp [h]
  · have h' : ¬ (k : Int) = (i : Int) := by omega
    have w := without_eq (hR k hk) (hR i hi) (by omega) h0 hb (by omega)
    have e : tabL n (fun r => if r = k then (fun c => T k c - T k i / T i i * T i c) else elimT T i k r) = tabL n (elimT T i (k + 1)) := tabL_congr fun r _ => by
      unfold elimT
      by_cases h1 : r = k
      · subst h1
        simp [h]
      · by_cases h2 : r = i
        · simp [h1, h2, show ¬ i = k from fun z => h z.symm]
        · have : (r < k + 1) = (r < k) := by
            apply propext
            omega
          simp [h1, h2, this]
    simp [h', ixO_tab hk, ixO_tab hi, ek, ei, w, set_tab hk, rqm_set hk, e]
theorem elim_loop {b n i : Nat} {T : Tb} (hi : i < n) (h0 : T i i ≠ 0) (hR : ∀ r, r < n → Rw b (n + 1) (T r)) (hb : b + b + b + b ≤ 13300) (hn : n ≤ 900) :
    forL (bName 5) RV.b_solve_L2 (ilist 0 n) (sl (rqm (tabL n T)) (.int i) .non .non) = .nx (sl (rqm (tabL n (elimT T i n))) (.int i) .non .non) := by
  have z : elimT T i 0 = T := by funext r; simp [elimT]
  have := forL_range (i := 5) (s1 := RV.b_solve_L2) (fun k => sl (rqm (tabL n (elimT T i k))) (.int i) .non .non) n fun k hk => .inl (elim_row hi hk h0 hR hb hn)
  rw [z] at this
  exact this
/-- one column: stuck, or cleared -/
theorem column {b n i : Nat} {T : Tb} (hi : i < n) (hR : ∀ r, r < n → Rw b (n + 1) (T r)) (hb : b + b + b + b ≤ 13300) (hn : n ≤ 900) :
    ((∀ r, i ≤ r → r < n → T r i = 0) ∧ ∃ ρ, RV.b_solve_L0 (sl (rqm (tabL n T)) (.int i) .non .non) = .exc .singular ρ) ∨
    (∃ q, i ≤ q ∧ q < n ∧ T q i ≠ 0 ∧ RV.b_solve_L0 (sl (rqm (tabL n T)) (.int i) .non .non) = .nx (sl (rqm (tabL n (elimT (swapT T i q) i n))) .non .non .non)) := by
  obtain ⟨q, h1, h2, h3, h4, h5⟩ := pivot_loop (T := T) hi (n - i) i (by omega) (n + 1) (by omega)
  unfold bWh at h1
  have fl : (rqm (tabL n T)).size = n := by simp [rqm, tabL_len, D.size]
  by_cases hq : q = n
  · left
    refine ⟨fun r r1 r2 => h4 r r1 (by omega), ?_⟩
    unfold RV.b_solve_L0
    simp [fl, h1, tabL_len, hq]
  · right
    have hq' : q < n := by omega
    have hqi : ¬ (q : Int) = (n : Int) := by omega
    refine ⟨q, h2, hq', h5 hq', ?_⟩
    have sw := swap_step (T := T) hi hq'
    have hR' : ∀ r, r < n → Rw b (n + 1) (swapT T i q r) := fun r hr => by
      unfold swapT
      split
      · exact hR q hq'
      · split
        · exact hR i hi
        · exact hR r hr
    have h0' : swapT T i q i i ≠ 0 := by simp [swapT]; exact h5 hq'
    have el := elim_loop hi h0' hR' hb hn
    have c1 : (n : Int) ≤ 1000000 := by omega
    have c2 : -1000000 ≤ (n : Int) := by omega
    unfold RV.b_solve_L0
    simp [-mAsgT_eq, fl, h1, tabL_len, hqi, sw, c1, c2, el]
/-! ### all columns -/
theorem sm_two {n i j : Nat} {f : Nat → Rat} (hi : i < n) (hj : j < n) (hij : i ≠ j) (h : ∀ c, c < n → c ≠ i → c ≠ j → f c = 0) : sm n f = f i + f j := by
  have e : sm n f = sm n (fun c => if c = i then f i else 0) + sm n (fun c => if c = j then f j else 0) := by
    have ad : ∀ (m : Nat) (u v : Nat → Rat), sm m (fun c => u c + v c) = sm m u + sm m v := fun m u v => by
      induction m with
      | zero => rw [sm_zero, sm_zero, sm_zero, Rat.add_zero]
      | succ m ih => rw [sm_succ, sm_succ, sm_succ, ih]; grind
    rw [← ad]
    refine sm_congr fun c hc => ?_
    by_cases h1 : c = i
    · subst h1; simp [hij, Rat.add_zero]
    · by_cases h2 : c = j
      · subst h2; simp [h1, Rat.zero_add]
      · simp [h1, h2, h c hc h1 h2, Rat.add_zero]
  rw [e, sm_one hi fun c _ hn => by simp [hn], sm_one hj fun c _ hn => by simp [hn]]
  simp
/-- bits at each column -/
def bb (b : Nat) : Nat → Nat
  | 0 => b
  | k + 1 => bb b k + bb b k + 1
theorem bb_le {b : Nat} : ∀ {i n : Nat}, i ≤ n → bb b i ≤ bb b n
  | i, 0, h => by rw [show i = 0 by omega]; exact Nat.le_refl _
  | i, n + 1, h => by
    by_cases e : i = n + 1
    · rw [e]; exact Nat.le_refl _
    · have := bb_le (b := b) (show i ≤ n by omega)
      show bb b i ≤ bb b n + bb b n + 1
      omega
structure Stg (b n : Nat) (T0 : Tb) (i : Nat) (T : Tb) : Prop where
  rw : ∀ r, r < n → Rw (bb b i) (n + 1) (T r)
  dg : ∀ c, c < i → T c c ≠ 0
  zr : ∀ c, c < i → ∀ r, r < n → r ≠ c → T r c = 0
  hm : ∀ z, Hom n T z ↔ Hom n T0 z
theorem Stg.step {b n i q : Nat} {T0 T : Tb} (h : Stg b n T0 i T) (hi : i < n) (h1 : i ≤ q) (hq : q < n) (h0 : T q i ≠ 0) : Stg b n T0 (i + 1) (elimT (swapT T i q) i n) := by
  have uii : swapT T i q i = T q := by simp [swapT]
  have ui0 : ∀ c, c < i → swapT T i q i c = 0 := fun c hc => by rw [uii]; exact h.zr c hc q hq (by omega)
  have ur : ∀ r, r < n → Rw (bb b i) (n + 1) (swapT T i q r) := fun r hr => by
    unfold swapT
    split
    · exact h.rw q hq
    · split
      · exact h.rw i hi
      · exact h.rw r hr
  have uc : ∀ c, c < i → ∀ r, r < n → r ≠ c → swapT T i q r c = 0 := fun c hc r hr hn => by
    unfold swapT
    split
    · exact h.zr c hc q hq (by omega)
    · split
      · exact h.zr c hc i hi (by omega)
      · exact h.zr c hc r hr hn
  have ud : ∀ c, c < i → swapT T i q c c = T c c := fun c hc => by
    unfold swapT
    rw [if_neg (by omega), if_neg (by omega)]
  have el : ∀ r, r < n → r ≠ i → elimT (swapT T i q) i n r = fun c => swapT T i q r c - swapT T i q r i / swapT T i q i i * swapT T i q i c := fun r hr hn => by simp [elimT, hn, hr]
  have eo : elimT (swapT T i q) i n i = swapT T i q i := by simp [elimT]
  refine ⟨fun r hr => ?_, fun c hc => ?_, fun c hc r hr hn => ?_, fun z => ?_⟩
  · by_cases e : r = i
    · rw [e, eo]
      exact (ur i hi).mono (by show bb b i ≤ bb b i + bb b i + 1; omega)
    · rw [el r hr e]
      exact (ur r hr).elim (ur i hi) (by omega) (by rw [uii]; exact h0)
  · by_cases e : c = i
    · rw [e, eo, uii]; exact h0
    · have hc' : c < i := by omega
      rw [el c (by omega) e]
      show swapT T i q c c - _ * swapT T i q i c ≠ 0
      rw [ui0 c hc', ud c hc']
      have := h.dg c hc'
      grind
  · by_cases e : r = i
    · rw [e, eo]
      exact uc c (by omega) i hi (by omega)
    · rw [el r hr e]
      show swapT T i q r c - swapT T i q r i / swapT T i q i i * swapT T i q i c = 0
      by_cases e2 : c = i
      · rw [e2]
        have : swapT T i q i i ≠ 0 := by rw [uii]; exact h0
        grind
      · rw [ui0 c (by omega), uc c (by omega) r hr hn]
        grind
  · rw [hom_elim hi, hom_swap hi hq]
    exact h.hm z
theorem Stg.stuck {b n i : Nat} {T0 T : Tb} (h : Stg b n T0 i T) (hi : i < n) (hz : ∀ r, i ≤ r → r < n → T r i = 0) : ∃ z : Nat → Rat, z n = 0 ∧ (∃ c, c < n ∧ z c ≠ 0) ∧ Hom n T0 z := by
  refine ⟨fun c => if c = i then 1 else if c < i then -(T c i / T c c) else 0, ?_, ⟨i, hi, by simp⟩, ?_⟩
  · simp [show ¬ n = i by omega, show ¬ n < i by omega]
  · rw [← h.hm]
    intro r hr
    by_cases hri : r < i
    · rw [sm_two (i := r) (j := i) (by omega) (by omega) (by omega) fun c hc h1 h2 => ?_]
      · have := h.dg r hri
        simp [show ¬ r = i by omega, hri]
        grind
      · by_cases hci : c < i
        · rw [h.zr c hci r hr (fun z => h1 z.symm), Rat.zero_mul]
        · simp [h2, hci]
    · refine sm_none fun c hc => ?_
      by_cases hci : c = i
      · subst hci
        rw [hz r (by omega) hr, Rat.zero_mul]
      · by_cases hcl : c < i
        · rw [h.zr c hcl r hr (by omega), Rat.zero_mul]
        · simp [hci, hcl]
theorem columns {b n : Nat} {T0 : Tb} (hb : bb b n + bb b n + bb b n + bb b n ≤ 13300) (hn : n ≤ 900) : ∀ (k i : Nat) (T : Tb), i + k = n → Stg b n T0 i T →
    (∃ T', forL (bName 3) RV.b_solve_L0 ((List.range' i k).map fun (j : Nat) => D.int (0 + (j : Int))) (sl (rqm (tabL n T)) .non .non .non) = .nx (sl (rqm (tabL n T')) .non .non .non) ∧ Stg b n T0 n T') ∨
    (∃ ρ, forL (bName 3) RV.b_solve_L0 ((List.range' i k).map fun (j : Nat) => D.int (0 + (j : Int))) (sl (rqm (tabL n T)) .non .non .non) = .exc .singular ρ ∧ ∃ z : Nat → Rat, z n = 0 ∧ (∃ c, c < n ∧ z c ≠ 0) ∧ Hom n T0 z)
  | 0, i, T, hk, h => .inl ⟨T, rfl, by rw [show n = i by omega] at h ⊢; exact h⟩
  | k + 1, i, T, hk, h => by
    have hi : i < n := by omega
    have hbi := bb_le (b := b) (show i ≤ n by omega)
    rw [List.range'_succ, List.map_cons, forL_cons, Int.zero_add, bName_eq, bindO_some]
    rcases column hi h.rw (by omega) hn with ⟨hz, ρ, e⟩ | ⟨q, h1, h2, h3, e⟩
    · right
      refine ⟨ρ, ?_, h.stuck hi hz⟩
      rw [show (sl (rqm (tabL n T)) D.non D.non D.non).set 3 (D.int i) = sl (rqm (tabL n T)) (.int i) .non .non from rfl, e]
      rfl
    · rw [show (sl (rqm (tabL n T)) D.non D.non D.non).set 3 (D.int i) = sl (rqm (tabL n T)) (.int i) .non .non from rfl, e]
      exact columns hb hn k (i + 1) _ (by omega) (h.step hi h1 h2 h3)
/-! ### solve -/
def aug (n : Nat) (M : Tb) (v : Nat → Rat) : Tb := fun r c => if c < n then M r c else v r
def rowsL (n : Nat) (M : Tb) : List (List Rat) := (List.range n).map fun r => rowL n (M r)
theorem rowsL_len {n : Nat} {M : Tb} : (rowsL n M).length = n := by simp [rowsL]
theorem aug_row {n r : Nat} {M : Tb} {v : Nat → Rat} : rowL (n + 1) (aug n M v r) = rowL n (M r) ++ [v r] := by
  unfold rowL aug
  rw [List.range_succ, List.map_append, List.map_singleton, if_neg (Nat.lt_irrefl n)]
  congr 1
  exact List.map_congr_left fun c hc => by rw [if_pos (List.mem_range.mp hc)]
theorem hom_aug {n : Nat} {M : Tb} {v z : Nat → Rat} : Hom n (aug n M v) z ↔ ∀ r, r < n → sm n (fun c => M r c * z c) + v r * z n = 0 := by
  have e : ∀ r, sm (n + 1) (fun c => aug n M v r c * z c) = sm n (fun c => M r c * z c) + v r * z n := fun r => by
    rw [sm_succ, sm_congr (g := fun c => M r c * z c) fun c hc => by simp [aug, hc]]
    simp [aug]
  constructor
  · intro h r hr
    rw [← e]
    exact h r hr
  · intro h r hr
    rw [e]
    exact h r hr
theorem solve_c0 {n : Nat} {M : Tb} {v : Nat → Rat} (hn : n ≤ 900) : RV.b_solve_C0 [rqm (rowsL n M), rql (rowL n v), .non, .non, .non, .non, .non, .non] = .ok (rqm (tabL n (aug n M v))) [rqm (rowsL n M), rql (rowL n v), .non, .non, .non, .non, .non, .non] := by
  have zl : List.zipWith (fun u w => D.tup [u, w]) ((rowsL n M).map rql) ((rowL n v).map rq) = (List.range n).map fun r => D.tup [rql (rowL n (M r)), rq (v r)] := by
    refine List.ext_getElem (by simp [rowsL, rowL]) fun c h1 h2 => ?_
    simp [rowsL, rowL]
  unfold RV.b_solve_C0
  simp [zip2, zl]
  rw [lcL_of (f := fun r => D.tup [rql (rowL n (M r)), rq (v r)]) (g := fun r => rql (rowL (n + 1) (aug n M v r))) (List.range n), rqm_map]
  · rfl
  · intro r hr
    refine ⟨_, [rqm (rowsL n M), rql (rowL n v), .non, .non, .non, .non, rql (rowL n (M r)), rq (v r)], rfl, ?_, rfl⟩
    have ad : fAdd (rql (rowL n (M r))) (.lst [rq (v r)]) = some (rql (rowL (n + 1) (aug n M v r))) := by
      have sz : ((rowL n (M r)).map rq).length + [rq (v r)].length ≤ sizeLine := by
        have := le_line (n := ((rowL n (M r)).map rq).length + [rq (v r)].length) (by simp [rowL]; omega)
        exact this
      show (if _ then _ else _) = _
      rw [if_pos sz, aug_row, rql_snoc]
    unfold RV.b_solve_C0e
    simp [ad]
theorem ix_last {n : Nat} {f : Nat → Rat} : fIx (rql (rowL (n + 1) f)) (.int (-1)) = some (rq (f n)) := by
  show atI ((rowL (n + 1) f).map rq) (-1) = _
  unfold atI ixN
  have l : ((rowL (n + 1) f).map rq).length = n + 1 := by simp [rowL]
  rw [l]
  rw [if_neg (by omega), if_pos (by omega)]
  simp only [Option.bind_some]
  rw [show (-1 + ((n + 1 : Nat) : Int)).toNat = n by omega]
  simp [rowL]
theorem quot_bt {b n : Nat} {f : Nat → Rat} {i j : Nat} (h : Rw b n f) (hi : i < n) (hj : j < n) (h0 : f j ≠ 0) : Bt b (f i / f j) := by
  obtain ⟨D, D0, hD, hf⟩ := h
  obtain ⟨m, e1, h1⟩ := hf i hi
  obtain ⟨w, e2, h2⟩ := hf j hj
  have w0 : w ≠ 0 := fun z => h0 (by rw [e2, z, Rat.zero_divInt])
  have e : f i / f j = Rat.divInt m w := by
    rw [e1, e2, Rat.divInt_eq_div, Rat.divInt_eq_div, Rat.divInt_eq_div]
    have dD : ((D : Int) : Rat) ≠ 0 := fun z => by
      have : (D : Int) = 0 := by exact_mod_cast z
      omega
    have dw : (w : Rat) ≠ 0 := fun z => w0 (by exact_mod_cast z)
    have k : ∀ (a c d : Rat), c ≠ 0 → d ≠ 0 → a / d / (c / d) = a / c := fun a c d h1 h2 => by grind
    exact k _ _ _ dw dD
  rw [e]
  exact .of w0 h1 h2
theorem solve_c1 {b n : Nat} {T0 T : Tb} (h : Stg b n T0 n T) (hb : bb b n + bb b n ≤ 13300) (hn : n ≤ 900) : RV.b_solve_C1 [.non, .non, rqm (tabL n T), .non, .non, .non, .non, .non] = .ok (rql (rowL n fun r => T r n / T r r)) [.non, .non, rqm (tabL n T), .non, .non, .non, .non, .non] := by
  have el : ((tabL n T).map rql).mapIdx (fun i d => D.tup [.int (i : Nat), d]) = (List.range n).map fun (r : Nat) => D.tup [.int r, rql (rowL (n + 1) (T r))] := by
    refine List.ext_getElem (by simp [tabL]) fun c h1 h2 => ?_
    simp [tabL]
  unfold RV.b_solve_C1
  simp [enum1]
  rw [el, lcL_of (f := fun (r : Nat) => D.tup [.int r, rql (rowL (n + 1) (T r))]) (g := fun r => rq (T r n / T r r)) (List.range n), rql_range]
  · rfl
  · intro r hr
    have hr := List.mem_range.mp hr
    have o := over_eq ((h.rw r hr).bt (show n < n + 1 by omega)) ((h.rw r hr).bt (show r < n + 1 by omega)) (h.dg r hr) (by omega)
    refine ⟨_, [.non, .non, rqm (tabL n T), .int r, .non, .non, rql (rowL (n + 1) (T r)), .non], rfl, ?_, rfl⟩
    unfold RV.b_solve_C1e
    simp [ix_last, ix_rowL (show r < n + 1 by omega), o]
theorem solve_eq {b n : Nat} {M : Tb} {v : Nat → Rat} (hR : ∀ r, r < n → Rw b (n + 1) (aug n M v r)) (hb : bb b n + bb b n + bb b n + bb b n ≤ 13300) (hn : n ≤ 900) :
    (∃ x : Nat → Rat, RV.m_solve [rqm (rowsL n M), rql (rowL n v)] = .ok (rql (rowL n x)) ∧ (∀ r, r < n → sm n (fun c => M r c * x c) = v r) ∧ (∀ y : Nat → Rat, (∀ r, r < n → sm n (fun c => M r c * y c) = v r) → ∀ c, c < n → y c = x c) ∧ ∀ c, c < n → Bt (bb b n) (x c)) ∨
    (RV.m_solve [rqm (rowsL n M), rql (rowL n v)] = .exc .singular ∧ ∃ z : Nat → Rat, (∃ c, c < n ∧ z c ≠ 0) ∧ ∀ r, r < n → sm n (fun c => M r c * z c) = 0) := by
  have c0 := solve_c0 (M := M) (v := v) hn
  have c1 : (n : Int) ≤ 1000000 := by omega
  have c2 : -1000000 ≤ (n : Int) := by omega
  have st : Stg b n (aug n M v) 0 (aug n M v) := ⟨hR, fun c hc => absurd hc (Nat.not_lt_zero c), fun c hc => absurd hc (Nat.not_lt_zero c), fun z => Iff.rfl⟩
  rcases columns hb hn n 0 (aug n M v) (by omega) st with ⟨T', e, h⟩ | ⟨ρ, e, z, z1, z2, z3⟩
  · left
    rw [← ilist_from] at e
    have cc := solve_c1 h (by omega) hn
    have hz : ∀ z : Nat → Rat, Hom n T' z ↔ ∀ r, r < n → T' r r * z r + T' r n * z n = 0 := fun z => by
      have es : ∀ r, r < n → sm (n + 1) (fun c => T' r c * z c) = T' r r * z r + T' r n * z n := fun r hr => sm_two (by omega) (by omega) (by omega) fun c hc h1 h2 => by rw [h.zr c (by omega) r hr (fun q => h1 q.symm), Rat.zero_mul]
      exact ⟨fun k r hr => by rw [← es r hr]; exact k r hr, fun k r hr => by rw [es r hr]; exact k r hr⟩
    refine ⟨fun r => T' r n / T' r r, ?_, ?_, ?_, fun c hc => quot_bt (h.rw c hc) (by omega) (by omega) (h.dg c hc)⟩
    · unfold RV.m_solve
      rw [mDef_eq]
      unfold RV.b_solve
      simp [c0, tabL_len, c1, c2, e, cc]
    · have k : Hom n (aug n M v) (fun c => if c = n then -1 else T' c n / T' c c) := by
        rw [← h.hm, hz]
        intro r hr
        have := h.dg r hr
        simp [show ¬ r = n by omega]
        grind
      rw [hom_aug] at k
      intro r hr
      have k2 := k r hr
      rw [sm_congr (g := fun c => M r c * (T' c n / T' c c)) fun c hc => by simp [show ¬ c = n by omega]] at k2
      simp at k2
      grind
    · intro y hy
      have k : Hom n (aug n M v) (fun c => if c = n then -1 else y c) := by
        rw [hom_aug]
        intro r hr
        rw [sm_congr (g := fun c => M r c * y c) fun c hc => by simp [show ¬ c = n by omega], hy r hr]
        simp
        grind
      rw [← h.hm, hz] at k
      intro c hc
      have k2 := k c hc
      have := h.dg c hc
      simp [show ¬ c = n by omega] at k2
      grind
  · right
    rw [← ilist_from] at e
    refine ⟨?_, z, z2, ?_⟩
    · unfold RV.m_solve
      rw [mDef_eq]
      unfold RV.b_solve
      simp [c0, tabL_len, c1, c2, e]
    · rw [hom_aug] at z3
      intro r hr
      have := z3 r hr
      rw [z1, Rat.mul_zero, Rat.add_zero] at this
      exact this
end MR

set_option Elab.async false
set_option linter.all false
set_option maxRecDepth 100000
set_option maxHeartbeats 1000000
/-! PD: dominant rows. -/
namespace MR
open PySem L2
/-- the others of a row together -/
def offs (n : Nat) (f : Nat → Rat) (i : Nat) : Rat := sm n fun c => if c = i then 0 else ra (f c)
def Dom (n : Nat) (M : Tb) : Prop := ∀ r, r < n → offs n (M r) r < ra (M r r)
theorem size_eq {x : Rat} : RV.m_size [rq x] = .ok (rq (ra x)) := by
  unfold RV.m_size
  rw [mDef_eq]
  unfold RV.b_size
  rw [← rq_abs]
  simp
theorem enum_row {n : Nat} {f : Nat → Rat} : ((rowL n f).map rq).mapIdx (fun i d => D.tup [.int (i : Nat), d]) = (List.range n).map fun (c : Nat) => D.tup [.int c, rq (f c)] := by
  refine List.ext_getElem (by simp [rowL]) fun c h1 h2 => ?_
  simp [rowL]
theorem enum_rows {n : Nat} {M : Tb} : ((rowsL n M).map rql).mapIdx (fun i d => D.tup [.int (i : Nat), d]) = (List.range n).map fun (c : Nat) => D.tup [.int c, rql (rowL n (M c))] := by
  refine List.ext_getElem (by simp [rowsL]) fun c h1 h2 => ?_
  simp [rowsL]
theorem dom_loop {k N i : Nat} {Rs rw : D} {f : Nat → Rat} (hk : N * (k + 2) + 1 + k ≤ 13300) (hf : ∀ c, c < N → Bt k (f c)) : ∀ (n j : Nat), j + n ≤ N → Bt (j * (k + 2) + 1) (sm j fun c => if c = i then 0 else ra (f c)) →
    forL (bTup 2 (bCons (bName 4) (bCons (bName 5) bNil))) RV.b_is_dominant_L1 ((List.range' j n).map fun (c : Nat) => D.tup [.int c, rq (f c)]) [Rs, .int i, rw, rq (sm j fun c => if c = i then 0 else ra (f c)), .non, .non] =
      .nx [Rs, .int i, rw, rq (sm (j + n) fun c => if c = i then 0 else ra (f c)), .non, .non]
  | 0, j, _, _ => rfl
  | n + 1, j, hn, hb => by
    have b1 := ra_bt (hf j (by omega))
    have l1 : j * (k + 2) ≤ N * (k + 2) := Nat.mul_le_mul (by omega) (Nat.le_refl _)
    have ad := add_eq hb b1 (by omega)
    have e : (j + 1) * (k + 2) + 1 = j * (k + 2) + 1 + k + 1 + 1 := by rw [Nat.add_mul]; omega
    have nx : sm (j + 1) (fun c => if c = i then 0 else ra (f c)) = (sm j fun c => if c = i then 0 else ra (f c)) + (if j = i then 0 else ra (f j)) := sm_succ _ _
    rw [List.range'_succ, List.map_cons, forL_cons]
    by_cases h : j = i
    · have b2 : Bt ((j + 1) * (k + 2) + 1) (sm (j + 1) fun c => if c = i then 0 else ra (f c)) := by
        rw [nx, if_pos h, Rat.add_zero]
        exact hb.mono (by omega)
      have ih := dom_loop (i := i) (Rs := Rs) (rw := rw) hk hf n (j + 1) (by omega) b2
      rw [nx, if_pos h, Rat.add_zero, show j + 1 + n = j + (n + 1) by omega] at ih
      have t : RV.b_is_dominant_L1 [Rs, .int i, rw, rq (sm j fun c => if c = i then 0 else ra (f c)), .int j, rq (f j)] = .nx [Rs, .int i, rw, rq (sm j fun c => if c = i then 0 else ra (f c)), .non, .non] := by
        unfold RV.b_is_dominant_L1
        simp [h]
      rw [show bTup 2 (bCons (bName 4) (bCons (bName 5) bNil)) (D.tup [.int j, rq (f j)]) [Rs, .int i, rw, rq (sm j fun c => if c = i then 0 else ra (f c)), .non, .non] = some [Rs, .int i, rw, rq (sm j fun c => if c = i then 0 else ra (f c)), .int j, rq (f j)] from rfl, bindO_some, t, loop_nx]
      exact ih
    · have b2 : Bt ((j + 1) * (k + 2) + 1) (sm (j + 1) fun c => if c = i then 0 else ra (f c)) := by
        rw [nx, if_neg h]
        exact (hb.addl b1).mono (by omega)
      have ih := dom_loop (i := i) (Rs := Rs) (rw := rw) hk hf n (j + 1) (by omega) b2
      rw [nx, if_neg h, show j + 1 + n = j + (n + 1) by omega] at ih
      have h' : ¬ (j : Int) = (i : Int) := by omega
      have t : RV.b_is_dominant_L1 [Rs, .int i, rw, rq (sm j fun c => if c = i then 0 else ra (f c)), .int j, rq (f j)] = .nx [Rs, .int i, rw, rq ((sm j fun c => if c = i then 0 else ra (f c)) + ra (f j)), .non, .non] := by
        unfold RV.b_is_dominant_L1
        simp [h', size_eq, ad]
      rw [show bTup 2 (bCons (bName 4) (bCons (bName 5) bNil)) (D.tup [.int j, rq (f j)]) [Rs, .int i, rw, rq (sm j fun c => if c = i then 0 else ra (f c)), .non, .non] = some [Rs, .int i, rw, rq (sm j fun c => if c = i then 0 else ra (f c)), .int j, rq (f j)] from rfl, bindO_some, t, loop_nx]
      exact ih
theorem offs_bt {k n i : Nat} {f : Nat → Rat} (hf : ∀ c, c < n → Bt k (f c)) : Bt (n * (k + 2) + 1) (offs n f i) := by
  have : ∀ m, m ≤ n → Bt (m * (k + 2) + 1) (sm m fun c => if c = i then 0 else ra (f c)) := by
    intro m
    induction m with
    | zero => intro _; exact .zero (by omega)
    | succ m ih =>
      intro hm
      have e : (m + 1) * (k + 2) + 1 = m * (k + 2) + 1 + k + 1 + 1 := by rw [Nat.add_mul]; omega
      rw [sm_succ]
      by_cases h : m = i
      · rw [if_pos h, Rat.add_zero]
        exact (ih (by omega)).mono (by omega)
      · rw [if_neg h]
        exact ((ih (by omega)).addl (ra_bt (hf m (by omega)))).mono (by omega)
  exact this n (Nat.le_refl n)
theorem dom_turn {k n r : Nat} {Rs : D} {f : Nat → Rat} (hk : n * (k + 2) + 1 + k ≤ 13300) (hf : ∀ c, c < n → Bt k (f c)) (hr : r < n) :
    RV.b_is_dominant_L0 [Rs, .int r, rql (rowL n f), .non, .non, .non] = if offs n f r < ra (f r) then .nx [Rs, .non, .non, .non, .non, .non] else .ret (.bl false) [Rs, .int r, rql (rowL n f), rq (offs n f r), .non, .non] := by
  have lp := dom_loop (i := r) (Rs := Rs) (rw := rql (rowL n f)) hk hf n 0 (by omega) (.zero (by omega))
  rw [Nat.zero_add, ← List.range_eq_range'] at lp
  have z : D.tup [.int 0, .int 1] = rq (sm 0 fun c => if c = r then 0 else ra (f c)) := rfl
  have ls := less_eq (offs_bt (i := r) hf) (ra_bt (hf r hr)) (by omega)
  unfold offs at ls ⊢
  unfold RV.b_is_dominant_L0
  by_cases h : (sm n fun c => if c = r then 0 else ra (f c)) < ra (f r)
  · simp [enum1, enum_row, z, lp, ix_rowL hr, size_eq, ls, h]
  · simp [enum1, enum_row, z, lp, ix_rowL hr, size_eq, ls, h]
theorem dominant_eq {k n : Nat} {M : Tb} (hk : n * (k + 2) + 1 + k ≤ 13300) (hM : ∀ r, r < n → ∀ c, c < n → Bt k (M r c)) : ∃ q : Bool, RV.m_is_dominant [rqm (rowsL n M)] = .ok (.bl q) ∧ (q = true ↔ Dom n M) := by
  have go : ∀ (m j : Nat), j + m = n → (∀ r, j ≤ r → r < n → offs n (M r) r < ra (M r r)) ∧ forL (bTup 2 (bCons (bName 1) (bCons (bName 2) bNil))) RV.b_is_dominant_L0 ((List.range' j m).map fun (c : Nat) => D.tup [.int c, rql (rowL n (M c))]) [rqm (rowsL n M), .non, .non, .non, .non, .non] = .nx [rqm (rowsL n M), .non, .non, .non, .non, .non] ∨
      (∃ r, j ≤ r ∧ r < n ∧ ¬ offs n (M r) r < ra (M r r)) ∧ ∃ ρ, forL (bTup 2 (bCons (bName 1) (bCons (bName 2) bNil))) RV.b_is_dominant_L0 ((List.range' j m).map fun (c : Nat) => D.tup [.int c, rql (rowL n (M c))]) [rqm (rowsL n M), .non, .non, .non, .non, .non] = .ret (.bl false) ρ := by
    intro m
    induction m with
    | zero => intro j hj; exact .inl ⟨fun r h1 h2 => by omega, rfl⟩
    | succ m ih =>
      intro j hj
      have hjn : j < n := by omega
      have t := dom_turn (Rs := rqm (rowsL n M)) hk (hM j hjn) hjn
      rw [List.range'_succ, List.map_cons, forL_cons]
      rw [show bTup 2 (bCons (bName 1) (bCons (bName 2) bNil)) (D.tup [.int j, rql (rowL n (M j))]) [rqm (rowsL n M), .non, .non, .non, .non, .non] = some [rqm (rowsL n M), .int j, rql (rowL n (M j)), .non, .non, .non] from rfl, bindO_some, t]
      by_cases h : offs n (M j) j < ra (M j j)
      · rw [if_pos h, loop_nx]
        rcases ih (j + 1) (by omega) with ⟨h1, h2⟩ | ⟨⟨r, h1, h2, h3⟩, h4⟩
        · refine .inl ⟨fun r r1 r2 => ?_, h2⟩
          by_cases e : r = j
          · rw [e]; exact h
          · exact h1 r (by omega) r2
        · exact .inr ⟨⟨r, by omega, h2, h3⟩, h4⟩
      · rw [if_neg h]
        exact .inr ⟨⟨j, Nat.le_refl _, hjn, h⟩, _, rfl⟩
  have g := go n 0 (by omega)
  rw [← List.range_eq_range'] at g
  unfold RV.m_is_dominant
  rw [mDef_eq]
  unfold RV.b_is_dominant
  rcases g with ⟨h1, h2⟩ | ⟨⟨r, h1, h2, h3⟩, ρ, h4⟩
  · exact ⟨true, by simp [enum1, enum_rows, h2], by simp; exact fun r hr => h1 r (Nat.zero_le _) hr⟩
  · exact ⟨false, by simp [enum1, enum_rows, h4], by simp; exact fun hd => h3 (hd r h2)⟩
/-- dominant rows have no kernel -/
theorem sm_ra {n : Nat} {f : Nat → Rat} : ra (sm n f) ≤ sm n fun c => ra (f c) := by
  induction n with
  | zero => rw [sm_zero, sm_zero]; decide
  | succ n ih =>
    rw [sm_succ, sm_succ]
    have := ra_add (sm n f) (f n)
    grind
theorem sm_le {n : Nat} {f g : Nat → Rat} (h : ∀ c, c < n → f c ≤ g c) : sm n f ≤ sm n g := by
  induction n with
  | zero => exact Rat.le_refl
  | succ n ih =>
    rw [sm_succ, sm_succ]
    have h1 := ih fun c hc => h c (by omega)
    have h2 := h n (by omega)
    grind
theorem sm_mul {n : Nat} {f : Nat → Rat} {k : Rat} : sm n (fun c => f c * k) = sm n f * k := by
  induction n with
  | zero => rw [sm_zero, sm_zero]; grind
  | succ n ih => rw [sm_succ, sm_succ, ih]; grind
theorem sm_split {n i : Nat} {f : Nat → Rat} (hi : i < n) : sm n f = f i + sm n fun c => if c = i then 0 else f c := by
  have e : sm n (fun c => if c = i then f i else 0) = f i := by
    rw [sm_one hi fun c _ h => by simp [h]]
    simp
  have ad : ∀ (m : Nat) (u v : Nat → Rat), sm m (fun c => u c + v c) = sm m u + sm m v := fun m u v => by
    induction m with
    | zero => rw [sm_zero, sm_zero, sm_zero, Rat.add_zero]
    | succ m ih => rw [sm_succ, sm_succ, sm_succ, ih]; grind
  conv => rhs; lhs; rw [← e]
  rw [← ad]
  refine sm_congr fun c _ => ?_
  by_cases h : c = i
  · subst h; simp [Rat.add_zero]
  · simp [h, Rat.zero_add]
theorem max_at (n : Nat) (z : Nat → Rat) (h : 0 < n) : ∃ r, r < n ∧ ∀ c, c < n → ra (z c) ≤ ra (z r) := by
  induction n with
  | zero => omega
  | succ n ih =>
    by_cases hn : n = 0
    · subst hn
      exact ⟨0, by omega, fun c hc => by rw [show c = 0 by omega]; exact Rat.le_refl⟩
    · obtain ⟨r, h1, h2⟩ := ih (by omega)
      by_cases hc : ra (z r) ≤ ra (z n)
      · refine ⟨n, by omega, fun c hc' => ?_⟩
        by_cases e : c = n
        · rw [e]; exact Rat.le_refl
        · have := h2 c (by omega); grind
      · refine ⟨r, by omega, fun c hc' => ?_⟩
        by_cases e : c = n
        · rw [e]; grind
        · exact h2 c (by omega)
theorem Dom.kernel {n : Nat} {M : Tb} (h : Dom n M) {z : Nat → Rat} (hz : ∀ r, r < n → sm n (fun c => M r c * z c) = 0) : ∀ c, c < n → z c = 0 := by
  intro c hc
  obtain ⟨r, hr, hm⟩ := max_at n z (by omega)
  by_cases h0 : ra (z r) = 0
  · have := hm c hc
    have := ra_nonneg (z c)
    exact ra_zero.mp (by grind)
  · exfalso
    have zp : 0 < ra (z r) := by have := ra_nonneg (z r); grind
    have d := h r hr
    have e := hz r hr
    rw [sm_split hr] at e
    have e2 : ra (M r r * z r) = ra (sm n fun c => if c = r then 0 else M r c * z c) := by
      rw [show M r r * z r = -(sm n fun c => if c = r then 0 else M r c * z c) by grind, ra_neg]
    have e3 : ra (sm n fun c => if c = r then 0 else M r c * z c) ≤ offs n (M r) r * ra (z r) := by
      refine Rat.le_trans sm_ra ?_
      unfold offs
      rw [← sm_mul]
      refine sm_le fun c hc => ?_
      by_cases q : c = r
      · simp [q, ra_zero.mpr rfl]
      · simp only [q, if_false]
        rw [ra_mul]
        exact Rat.mul_le_mul_of_nonneg_left (hm c hc) (ra_nonneg _)
    rw [ra_mul] at e2
    have e4 : offs n (M r) r * ra (z r) < ra (M r r) * ra (z r) := Rat.mul_lt_mul_of_pos_right d zp
    grind
end MR

set_option Elab.async false
set_option linter.all false
set_option maxRecDepth 100000
set_option maxHeartbeats 1000000
/-! PR: the texts of rows of small ratios; drawn rows. -/
namespace MR
open PySem L2
def pq (x : Rat) : PyData := .tuple [.int x.num, .int x.den]
def pql (xs : List Rat) : PyData := .list (xs.map pq)
def pqm (rows : List (List Rat)) : PyData := .list (rows.map pql)
theorem py_rq {x : Rat} : toPy (rq x) = some (pq x) := by simp [toPy, toPys, pq]
theorem pys_map {α : Type} {f : α → D} {g : α → PyData} (h : ∀ x, toPy (f x) = some (g x)) : ∀ xs : List α, toPys (xs.map f) = some (xs.map g)
  | [] => rfl
  | x :: xs => by simp [toPys, h, pys_map h xs]
theorem py_rql {xs : List Rat} : toPy (rql xs) = some (pql xs) := by
  unfold rql pql
  simp [toPy, pys_map (fun _ => py_rq) xs]
theorem py_rqm {rows : List (List Rat)} : toPy (rqm rows) = some (pqm rows) := by
  unfold rqm pqm
  simp [toPy, pys_map (fun _ => py_rql) rows]
/-- what is asked of data to be shown, at most w heavy -/
structure Shw (w : Nat) (p : PyData) : Prop where
  sh : p.showable = true
  nd : p.hasDict = false
  ls : p.leavesShort 13 = true
  wt : p.weight ≤ w
theorem Shw.mono {w v : Nat} {p : PyData} (h : Shw w p) (e : w ≤ v) : Shw v p := ⟨h.sh, h.nd, h.ls, Nat.le_trans h.wt e⟩
theorem shw_all {w : Nat} : ∀ {ps : List PyData}, (∀ p ∈ ps, Shw w p) → PyData.showableAll ps = true ∧ PyData.hasDictAll ps = false ∧ PyData.leavesShortAll 13 ps = true ∧ PyData.weightAll ps ≤ ps.length * (w + 1)
  | [], _ => ⟨rfl, rfl, rfl, by simp [PyData.weightAll]⟩
  | p :: ps, h => by
    obtain ⟨h1, h2, h3, h4⟩ := h p List.mem_cons_self
    obtain ⟨k1, k2, k3, k4⟩ := shw_all (ps := ps) fun q hq => h q (List.mem_cons_of_mem _ hq)
    refine ⟨by simp [PyData.showableAll, h1, k1], by simp [PyData.hasDictAll, h2, k2], by simp [PyData.leavesShortAll, h3, k3], ?_⟩
    simp only [PyData.weightAll, List.length_cons]
    rw [Nat.add_mul]
    omega
theorem shw_list {w n : Nat} {ps : List PyData} (h : ∀ p ∈ ps, Shw w p) (hn : ps.length ≤ n) : Shw (n * (w + 1)) (.list ps) := by
  obtain ⟨k1, k2, k3, k4⟩ := shw_all h
  exact ⟨by simpa [PyData.showable] using k1, by simpa [PyData.hasDict] using k2, by simpa [PyData.leavesShort] using k3, by simp only [PyData.weight]; exact Nat.le_trans k4 (Nat.mul_le_mul hn (Nat.le_refl _))⟩
theorem shw_tuple {w n : Nat} {ps : List PyData} (h : ∀ p ∈ ps, Shw w p) (hn : ps.length ≤ n) : Shw (n * (w + 1)) (.tuple ps) := by
  obtain ⟨k1, k2, k3, k4⟩ := shw_all h
  exact ⟨by simpa [PyData.showable] using k1, by simpa [PyData.hasDict] using k2, by simpa [PyData.leavesShort] using k3, by simp only [PyData.weight]; exact Nat.le_trans k4 (Nat.mul_le_mul hn (Nat.le_refl _))⟩
theorem shw_int {i : Int} (h : i.natAbs < 2 ^ 39) : Shw 40 (.int i) := by
  have hl := log2_lt (by decide) h
  refine ⟨by simp [PyData.showable]; omega, rfl, ?_, ?_⟩
  · have := PyData.shown_int_le (i := i) (Nat.lt_trans h (by decide))
    simpa [PyData.leavesShort] using this
  · simp only [PyData.weight]
    split <;> omega
theorem shw_rq {x : Rat} (h : Bt 39 x) : Shw 82 (pq x) := shw_tuple (w := 40) (n := 2) (fun p hp => by
  rcases List.mem_cons.mp hp with rfl | hp
  · exact shw_int h.n
  · rcases List.mem_cons.mp hp with rfl | hp
    · exact shw_int (by simpa using h.d)
    · cases hp) (by simp)
theorem shw_rql {xs : List Rat} {n : Nat} (h : Bts 39 xs) (hn : xs.length ≤ n) : Shw (n * 83) (pql xs) := shw_list (w := 82) (fun p hp => by
  obtain ⟨x, hx, rfl⟩ := List.mem_map.mp hp
  exact shw_rq (h x hx)) (by simpa using hn)
theorem shw_rqm {rows : List (List Rat)} {n : Nat} (h : ∀ r ∈ rows, Bts 39 r ∧ r.length ≤ n) (hn : rows.length ≤ n) : Shw (n * (n * 83 + 1)) (pqm rows) := shw_list (w := n * 83) (fun p hp => by
  obtain ⟨x, hx, rfl⟩ := List.mem_map.mp hp
  exact shw_rql (h x hx).1 (h x hx).2) (by simpa using hn)
theorem repr_three {A B : List (List Rat)} {v : List Rat} (hA : ∀ r ∈ A, Bts 39 r ∧ r.length ≤ 6) (hA2 : A.length ≤ 6) (hB : ∀ r ∈ B, Bts 39 r ∧ r.length ≤ 6) (hB2 : B.length ≤ 6) (hv : Bts 39 v) (hv2 : v.length ≤ 6) :
    ∃ s : Str, fRepr (.lst [rqm A, rqm B, rql v]) = some (.str s) := by
  have e : toPy (.lst [rqm A, rqm B, rql v]) = some (.list [pqm A, pqm B, pql v]) := by simp [toPy, toPys, py_rqm, py_rql]
  have w : Shw (3 * (6 * (6 * 83 + 1) + 1)) (.list [pqm A, pqm B, pql v]) := shw_list (fun p hp => by
    rcases List.mem_cons.mp hp with rfl | hp
    · exact shw_rqm hA hA2
    · rcases List.mem_cons.mp hp with rfl | hp
      · exact shw_rqm hB hB2
      · rcases List.mem_cons.mp hp with rfl | hp
        · exact (shw_rql hv hv2).mono (by decide)
        · cases hp) (by simp)
  have dp : (PyData.list [pqm A, pqm B, pql v]).depth ≤ 60 := by
    have pl : plain 4 (.lst [rqm A, rqm B, rql v]) = true := by
      simp only [MR.plain, MR.plains, Bool.and_true, Bool.and_eq_true]
      exact ⟨plain_rqm, plain_rqm, plains_map fun _ _ => rfl⟩
    obtain ⟨p, e2, _, h3⟩ := plain_py pl
    rw [e] at e2
    cases e2
    omega
  have fits := PyData.shown_fits (B := 13) (by decide) (by decide) w.ls (Nat.le_trans w.wt (by decide))
  refine ⟨(PyData.list [pqm A, pqm B, pql v]).shown, ?_⟩
  unfold fRepr
  rw [if_pos (show isRefD _ = true from rfl), e, Option.bind_some, if_pos ⟨w.sh, w.nd, dp, fits⟩]
/-! ### drawn rows -/
theorem div2520 {d : Int} (h1 : 1 ≤ d) (h9 : d ≤ 9) : ∃ a : Int, d * a = 2520 ∧ 0 < a ∧ a ≤ 2520 := by
  have : d = 1 ∨ d = 2 ∨ d = 3 ∨ d = 4 ∨ d = 5 ∨ d = 6 ∨ d = 7 ∨ d = 8 ∨ d = 9 := by omega
  rcases this with rfl | rfl | rfl | rfl | rfl | rfl | rfl | rfl | rfl
  · exact ⟨2520, by decide, by decide, by decide⟩
  · exact ⟨1260, by decide, by decide, by decide⟩
  · exact ⟨840, by decide, by decide, by decide⟩
  · exact ⟨630, by decide, by decide, by decide⟩
  · exact ⟨504, by decide, by decide, by decide⟩
  · exact ⟨420, by decide, by decide, by decide⟩
  · exact ⟨360, by decide, by decide, by decide⟩
  · exact ⟨315, by decide, by decide, by decide⟩
  · exact ⟨280, by decide, by decide, by decide⟩
theorem cd_of {n d : Int} {k : Nat} (h1 : 1 ≤ d) (h9 : d ≤ 9) (hn : n.natAbs * 2520 < 2 ^ k) : Cd 2520 k (Rat.divInt n d) := by
  obtain ⟨a, ha, a1, a2⟩ := div2520 h1 h9
  refine ⟨n * a, ?_, ?_⟩
  · rw [← Rat.divInt_mul_right (show a ≠ 0 by omega), ha]
    rfl
  · rw [Int.natAbs_mul]
    refine Nat.lt_of_le_of_lt (Nat.mul_le_mul (Nat.le_refl _) ?_) hn
    omega
theorem small_cd (c : Int) : Cd 2520 14 (smallR c) := by
  obtain ⟨n, d, e, h1, h9, hn⟩ := small_form c
  rw [e]
  exact cd_of h1 h9 (by have : n.natAbs * 2520 ≤ 6 * 2520 := Nat.mul_le_mul hn (Nat.le_refl _); omega)
theorem Cd.mono {D b c : Nat} {x : Rat} (h : Cd D b x) (e : b ≤ c) : Cd D c x := let ⟨m, h1, h2⟩ := h; ⟨m, h1, p2 h2 e⟩
/-- bounded by numbers, not by bits -/
def Cn (D B : Nat) (x : Rat) : Prop := ∃ m : Int, x = Rat.divInt m D ∧ m.natAbs ≤ B
theorem Cn.cd {D B b : Nat} {x : Rat} (h : Cn D B x) (hb : B < 2 ^ b) : Cd D b x := let ⟨m, h1, h2⟩ := h; ⟨m, h1, Nat.lt_of_le_of_lt h2 hb⟩
theorem Cn.mono {D B C : Nat} {x : Rat} (h : Cn D B x) (hb : B ≤ C) : Cn D C x := let ⟨m, h1, h2⟩ := h; ⟨m, h1, Nat.le_trans h2 hb⟩
theorem Cn.add {D B C : Nat} {x y : Rat} (hx : Cn D B x) (hy : Cn D C y) (D0 : 0 < D) : Cn D (B + C) (x + y) := by
  obtain ⟨m, rfl, h1⟩ := hx
  obtain ⟨k, rfl, h2⟩ := hy
  refine ⟨m + k, ?_, by omega⟩
  rw [Rat.divInt_add_divInt _ _ (by omega) (by omega), ← Int.add_mul, Rat.divInt_mul_right (by omega)]
theorem Cn.neg {D B : Nat} {x : Rat} (hx : Cn D B x) : Cn D B (-x) := by
  obtain ⟨m, rfl, h1⟩ := hx
  exact ⟨-m, Rat.neg_divInt _ _, by omega⟩
theorem Cn.ra {D B : Nat} {x : Rat} (hx : Cn D B x) : Cn D B (MR.ra x) := by
  unfold MR.ra
  split
  · exact hx.neg
  · exact hx
theorem Cn.zero {D B : Nat} : Cn D B 0 := ⟨0, (Rat.zero_divInt _).symm, by omega⟩
theorem Cn.mul {D D' B C : Nat} {x y : Rat} (hx : Cn D B x) (hy : Cn D' C y) : Cn (D * D') (B * C) (x * y) := by
  obtain ⟨m, rfl, h1⟩ := hx
  obtain ⟨k, rfl, h2⟩ := hy
  refine ⟨m * k, ?_, ?_⟩
  · rw [Rat.divInt_mul_divInt, Int.natCast_mul]
  · rw [Int.natAbs_mul]
    exact Nat.mul_le_mul h1 h2
theorem Cn.sm {D B n : Nat} {f : Nat → Rat} (h : ∀ c, c < n → Cn D B (f c)) (D0 : 0 < D) : Cn D (n * B) (MR.sm n f) := by
  induction n with
  | zero => exact .zero
  | succ n ih =>
    rw [sm_succ, Nat.add_mul, Nat.one_mul]
    exact (ih fun c hc => h c (by omega)).add (h n (by omega)) D0
theorem cn_of {n d : Int} {k : Nat} (h1 : 1 ≤ d) (h9 : d ≤ 9) (hn : n.natAbs ≤ k) : Cn 2520 (k * 2520) (Rat.divInt n d) := by
  obtain ⟨a, ha, a1, a2⟩ := div2520 h1 h9
  refine ⟨n * a, ?_, ?_⟩
  · rw [← Rat.divInt_mul_right (show a ≠ 0 by omega), ha]
    rfl
  · rw [Int.natAbs_mul]
    exact Nat.mul_le_mul hn (by omega)
theorem small_cn (c : Int) : Cn 2520 15120 (smallR c) := by
  obtain ⟨n, d, e, h1, h9, hn⟩ := small_form c
  rw [e]
  exact (cn_of h1 h9 hn).mono (by decide)
theorem Bt.cn {D B k : Nat} {x : Rat} (h : Cn D B x) (D0 : 0 < D) (hD : D < 2 ^ k) (hB : B < 2 ^ k) : Bt k x := (h.cd hB).bt D0 hD
/-- the drawn rows -/
noncomputable def drawn (ns : List Int) (a n : Nat) : Tb := fun i j => smallR (cellZ ns (a + n * i + j))
theorem lrows_eq {ns : List Int} {a n : Nat} (ha : a ≤ 100) (hn : n ≤ 6) : RV.m__law_rows [.scr ns, .int a, .int n] = .ok (rqm (rowsL n (drawn ns a n))) := by
  have c1 : (n : Int) ≤ 1000000 := by omega
  have c2 : -1000000 ≤ (n : Int) := by omega
  have cc : ∀ (L : D) (i : Nat), i < 6 → RV.b__law_rows_C0 [.scr ns, .int a, .int n, L, .int i, .non] = .ok (rql (rowL n (drawn ns a n i))) [.scr ns, .int a, .int n, L, .int i, .non] := fun L i hi => by
    unfold RV.b__law_rows_C0
    simp [c1, c2]
    rw [lcR (fun j => rq (drawn ns a n i j)), rql_range]
    · rfl
    intro j hj
    have hwi : n * i ≤ 6 * 6 := Nat.mul_le_mul hn (by omega)
    have e := cell_is ns (a + n * i + j) (by omega)
    have m : CMulX n i := mulx (a := 3) (b := 3) (by omega) (by omega)
    push_cast at e
    unfold RV.b__law_rows_C0e
    simp [m, e, small_is, drawn]
  have go := forL_range (i := 4) (s1 := RV.b__law_rows_L0) (fun k => [.scr ns, .int a, .int n, rqm ((List.range k).map fun i => rowL n (drawn ns a n i)), .non, .non]) n fun k hk => by
    left
    have hl : k < 1000000 := by omega
    simp only [List.set_cons_succ, List.set_cons_zero]
    unfold RV.b__law_rows_L0
    simp [cc _ k (by omega), hl, List.range_succ]
    simp [rqm]
  have z : rqm ((List.range 0).map fun i => rowL n (drawn ns a n i)) = .lst [] := rfl
  simp only [z] at go
  unfold RV.m__law_rows
  rw [mDef_eq]
  unfold RV.b__law_rows
  simp [c1, c2, go]
  rfl
/-! ### parts of lists -/
theorem fSl_rql {xs : List Rat} {lo hi : Option Int} : fSl lo hi (rql xs) = some (rql (cutD xs lo hi)) := by
  unfold rql
  rw [fSl_lst]
  unfold cutD
  rw [List.length_map, List.map_take, List.map_drop]
theorem fSl_rqm {xs : List (List Rat)} {lo hi : Option Int} : fSl lo hi (rqm xs) = some (rqm (cutD xs lo hi)) := by
  unfold rqm
  rw [fSl_lst]
  unfold cutD
  rw [List.length_map, List.map_take, List.map_drop]
theorem fAdd_rql {xs ys : List Rat} (h : xs.length + ys.length ≤ 1000000) : fAdd (rql xs) (rql ys) = some (rql (xs ++ ys)) := by
  unfold rql
  rw [fAdd_lst, if_pos (by rw [List.length_map, List.length_map]; exact Nat.le_trans h (by decide)), List.map_append]
theorem fAdd_rqm {xs ys : List (List Rat)} (h : xs.length + ys.length ≤ 1000000) : fAdd (rqm xs) (rqm ys) = some (rqm (xs ++ ys)) := by
  unfold rqm
  rw [fAdd_lst, if_pos (by rw [List.length_map, List.length_map]; exact Nat.le_trans h (by decide)), List.map_append]
theorem rql_one {a : Rat} : D.lst [rq a] = rql [a] := rfl
theorem rqm_one {a : List Rat} : D.lst [rql a] = rqm [a] := rfl
theorem put_list {α : Type} {n at' : Nat} {f : Nat → α} {d : α} (h : at' < n) : ((List.range n).map f).take at' ++ [d] ++ ((List.range n).map f).drop (at' + 1) = (List.range n).map fun j => if j = at' then d else f j := by
  rw [List.append_assoc]
  refine List.ext_getElem (by simp; omega) fun i h1 h2 => ?_
  have hi : i < n := by simpa using h2
  by_cases e : i < at'
  · rw [List.getElem_append_left (by simp; omega)]
    simp [show ¬ i = at' by omega]
  · rw [List.getElem_append_right (by simp; omega)]
    have hl : (((List.range n).map f).take at').length = at' := by simp; omega
    by_cases e2 : i = at'
    · subst e2
      simp [hl]
    · rw [List.getElem_append_right (by simp; omega)]
      simp [e2]
      congr 1
      omega
theorem turn_list {α : Type} {n t : Nat} {f : Nat → α} (h : t < n) : ((List.range n).map f).drop t ++ ((List.range n).map f).take t = (List.range n).map fun j => f ((j + t) % n) := by
  refine List.ext_getElem (by simp; omega) fun i h1 h2 => ?_
  have hi : i < n := by simpa using h2
  by_cases e : i < n - t
  · rw [List.getElem_append_left (by simp; omega)]
    simp [Nat.mod_eq_of_lt (show i + t < n by omega), Nat.add_comm i t, Nat.mod_eq_of_lt (show t + i < n by omega)]
  · rw [List.getElem_append_right (by simp; omega)]
    have : (i + t) % n = i + t - n := by
      rw [Nat.mod_eq_sub_mod (by omega), Nat.mod_eq_of_lt (by omega)]
    simp [this]
    congr 1
    omega
theorem sum_filter {p : Nat → Bool} {g : Nat → Rat} (n : Nat) : (((List.range n).filter p).map g).sum = sm n fun c => if p c = true then g c else 0 := by
  induction n with
  | zero => rfl
  | succ n ih =>
    rw [List.range_succ, List.filter_append, List.map_append, sm_succ, ← ih]
    cases q : p n with
    | true => simp [q, sum_snoc, Rat.add_zero]
    | false => simp [q, Rat.add_zero]
theorem sum_pair {k : Nat} {a b : Rat} (ha : Bt k a) (hb : Bt k b) (hk : k ≤ 700 := by decide) : RV.m__law_sum [rql [a, b]] = .ok (rq (a + b)) := by
  have := sum_eq (k := k) (xs := [a, b]) (fun x hx => by
    rcases List.mem_cons.mp hx with rfl | hx
    · exact ha
    · rcases List.mem_cons.mp hx with rfl | hx
      · exact hb
      · cases hx) hk
  rw [this]
  simp [Rat.add_zero]
theorem offs_cn {n i B : Nat} {f : Nat → Rat} (h : ∀ c, c < n → Cn 2520 B (f c)) : Cn 2520 (n * B) (offs n f i) := Cn.sm (fun c hc => by
  by_cases e : c = i
  · rw [if_pos e]; exact .zero
  · rw [if_neg e]; exact (h c hc).ra) (by decide)
theorem sm_nonneg {n : Nat} {f : Nat → Rat} (h : ∀ c, c < n → 0 ≤ f c) : 0 ≤ sm n f := by
  induction n with
  | zero => exact Rat.le_refl
  | succ n ih =>
    rw [sm_succ]
    have := ih fun c hc => h c (by omega)
    have := h n (by omega)
    grind
theorem offs_nonneg {n i : Nat} {f : Nat → Rat} : 0 ≤ offs n f i := sm_nonneg fun c _ => by
  split
  · exact Rat.le_refl
  · exact ra_nonneg _
end MR

set_option Elab.async false
set_option linter.all false
set_option maxRecDepth 100000
set_option maxHeartbeats 1000000
/-! PW: ratios with great numbers: below any bound that matters, over small denominators. -/
namespace MR
open PySem L2
def bN : Nat := 10000000
/-- a ratio with a number of any size that comes up, over one of some thousand bits -/
structure Wd (x : Rat) : Prop where
  n : x.num.natAbs < 2 ^ bN
  d : x.den < 2 ^ 4000
theorem gcd_lt {n d : Int} {k : Nat} (hd : 0 < d) (hs : d.natAbs < 2 ^ k) : (Int.gcd n d : Int) ≠ 0 ∧ ((Int.gcd n d : Int)).natAbs < 2 ^ k := by
  have h0 : Int.gcd n d ≠ 0 := fun z => by
    have := Int.gcd_eq_zero_iff.mp z
    omega
  refine ⟨by omega, ?_⟩
  have : Int.gcd n d ≤ d.natAbs := Nat.le_of_dvd (by omega) (by
    have := Int.gcd_dvd_right n d
    have h2 : Int.gcd n d ∣ d.natAbs := Nat.gcd_dvd_right _ _
    exact h2)
  have e : ((Int.gcd n d : Int)).natAbs = Int.gcd n d := by omega
  rw [e]
  exact Nat.lt_of_le_of_lt this hs
theorem divx_w {i n d : Int} (hd : 0 < d) (hs : d.natAbs < 2 ^ 8900) : CDivX i (Int.gcd n d : Int) := by
  obtain ⟨a, b⟩ := gcd_lt (n := n) hd hs
  exact divx a b
theorem ratio_w {n d : Int} (hd : 0 < d) (hs : d.natAbs < 2 ^ 8900) : RV.m_ratio [.int n, .int d] = .ok (rq (Rat.divInt n d)) := by
  have lt0 : ¬ d < 1 := by omega
  have h0 : d ≠ 0 := by omega
  obtain ⟨g, L, hg⟩ := gcd_loop2 (d.natAbs + 1) n d.natAbs (by omega)
  have ed : ((d.natAbs : Nat) : Int) = d := by omega
  rw [ed] at L hg
  have cd : RV.m_common_divisor [.int n, .int d] = .ok (.int (Int.gcd n d)) := by
    unfold RV.m_common_divisor
    rw [mDef_eq]
    unfold RV.b_common_divisor
    simp [D.nat, L, hg]
  unfold RV.m_ratio
  rw [mDef_eq]
  unfold RV.b_ratio
  simp [isint_int, cd, lt0, divx_w hd hs, fdiv_g]
  have e := rq_divInt (n := n) hd
  simp only [rq, D.tup.injEq, List.cons.injEq, D.int.injEq, and_true] at e
  exact ⟨e.1.symm, e.2.symm⟩
theorem mxw {i j : Int} (h1 : i.natAbs < 2 ^ bN) (h2 : j.natAbs < 2 ^ bN) : CMulX i j := mx h1 h2 (by unfold bN; omega)
theorem up4 {n : Nat} (h : n < 2 ^ 4000) : n < 2 ^ bN := Nat.lt_of_lt_of_le h (Nat.pow_le_pow_right (by decide) (by unfold bN; omega))
section
variable {x y : Rat}
theorem Wd.dI (h : Wd x) : ((x.den : Int)).natAbs < 2 ^ 4000 := by simpa using h.d
theorem Wd.dN (h : Wd x) : ((x.den : Int)).natAbs < 2 ^ bN := up4 h.dI
theorem den_lt (h1 : Wd x) (h2 : Wd y) : ((x.den : Int) * y.den).natAbs < 2 ^ 8900 := p2 (mul_bitsI h1.dI h2.dI)
theorem less_w (h1 : Wd x) (h2 : Wd y) : RV.m_less [rq x, rq y] = .ok (.bl (decide (x < y))) := by
  unfold RV.m_less
  rw [mDef_eq]
  unfold RV.b_less
  simp [mxw h1.n h2.dN, mxw h2.n h1.dN, Rat.lt_iff]
theorem at_most_w (h1 : Wd x) (h2 : Wd y) : RV.m_at_most [rq x, rq y] = .ok (.bl (decide (x ≤ y))) := by
  unfold RV.m_at_most
  rw [mDef_eq]
  unfold RV.b_at_most
  simp [mxw h1.n h2.dN, mxw h2.n h1.dN, Rat.le_iff]
theorem add_w (h1 : Wd x) (h2 : Wd y) : RV.m_add [rq x, rq y] = .ok (rq (x + y)) := by
  unfold RV.m_add
  rw [mDef_eq]
  unfold RV.b_add
  have e := ratio_w (n := x.num * y.den + y.num * x.den) (d := x.den * y.den) den_mul_pos (den_lt h1 h2)
  simp [mxw h1.n h2.dN, mxw h2.n h1.dN, mxw h1.dN h2.dN, e, add_eqD]
theorem sub_w (h1 : Wd x) (h2 : Wd y) : RV.m_sub [rq x, rq y] = .ok (rq (x - y)) := by
  unfold RV.m_sub
  rw [mDef_eq]
  unfold RV.b_sub
  have e := ratio_w (n := x.num * y.den - y.num * x.den) (d := x.den * y.den) den_mul_pos (den_lt h1 h2)
  simp [mxw h1.n h2.dN, mxw h2.n h1.dN, mxw h1.dN h2.dN, e, sub_eqD]
theorem times_w (h1 : Wd x) (h2 : Wd y) : RV.m_times [rq x, rq y] = .ok (rq (x * y)) := by
  unfold RV.m_times
  rw [mDef_eq]
  unfold RV.b_times
  have e := ratio_w (n := x.num * y.num) (d := x.den * y.den) den_mul_pos (den_lt h1 h2)
  simp [mxw h1.n h2.n, mxw h1.dN h2.dN, e, mul_eqD]
/-! ### the law's own ratios -/
theorem gcd_loopL (x y : D) (k : Nat) : ∀ a b : Nat, b < k → whileN (mCmpT fGt (mVar 3) (mC (.int 0))) RM.b__law_ratio_L0 k [x, y, .int a, .int b] = .nx [x, y, .int (Nat.gcd a b), .int 0] := gcd_loop x y k
theorem lratio_w {n d : Int} (hd : 0 < d) (hs : d.natAbs < 2 ^ 8900) : RM.m__law_ratio [.int n, .int d] = .ok (rq (Rat.divInt n d)) := by
  have lt0 : ¬ d < 0 := by omega
  have L := gcd_loopL (.int n) (.int d) (d.natAbs + 1) n.natAbs d.natAbs (by omega)
  have eg : ((Nat.gcd n.natAbs d.natAbs : Nat) : Int) = (Int.gcd n d : Int) := rfl
  unfold RM.m__law_ratio
  rw [mDef_eq]
  unfold RM.b__law_ratio
  simp [D.nat, L, lt0, eg, divx_w hd hs, fdiv_g]
  have e := rq_divInt (n := n) hd
  simp only [rq, D.tup.injEq, List.cons.injEq, D.int.injEq, and_true] at e
  exact ⟨e.1.symm, e.2.symm⟩
theorem ladd_w (h1 : Wd x) (h2 : Wd y) : RM.m__law_add [rq x, rq y] = .ok (rq (x + y)) := by
  unfold RM.m__law_add
  rw [mDef_eq]
  unfold RM.b__law_add
  have e := lratio_w (n := x.num * y.den + y.num * x.den) (d := x.den * y.den) den_mul_pos (den_lt h1 h2)
  simp [mxw h1.n h2.dN, mxw h2.n h1.dN, mxw h1.dN h2.dN, e, add_eqD]
theorem lsub_w (h1 : Wd x) (h2 : Wd y) : RM.m__law_sub [rq x, rq y] = .ok (rq (x - y)) := by
  unfold RM.m__law_sub
  rw [mDef_eq]
  unfold RM.b__law_sub
  have e := lratio_w (n := x.num * y.den - y.num * x.den) (d := x.den * y.den) den_mul_pos (den_lt h1 h2)
  simp [mxw h1.n h2.dN, mxw h2.n h1.dN, mxw h1.dN h2.dN, e, sub_eqD]
theorem ltimes_w (h1 : Wd x) (h2 : Wd y) : RM.m__law_times [rq x, rq y] = .ok (rq (x * y)) := by
  unfold RM.m__law_times
  rw [mDef_eq]
  unfold RM.b__law_times
  have e := lratio_w (n := x.num * y.num) (d := x.den * y.den) den_mul_pos (den_lt h1 h2)
  simp [mxw h1.n h2.n, mxw h1.dN h2.dN, e, mul_eqD]
theorem lless_w (h1 : Wd x) (h2 : Wd y) : RM.m__law_less [rq x, rq y] = .ok (.bl (decide (x < y))) := by
  unfold RM.m__law_less
  rw [mDef_eq]
  unfold RM.b__law_less
  simp [mxw h1.n h2.dN, mxw h2.n h1.dN, Rat.lt_iff]
end
/-! ### ratios over a common number -/
theorem Cn.wd {D B : Nat} {x : Rat} (h : Cn D B x) (D0 : 0 < D) (hD : D < 2 ^ 4000) (hB : B < 2 ^ bN) : Wd x := by
  obtain ⟨m, rfl, h1⟩ := h
  have d0 : (D : Int) ≠ 0 := by omega
  refine ⟨Nat.lt_of_le_of_lt (Nat.le_trans (divInt_n d0) h1) hB, Nat.lt_of_le_of_lt (divInt_d d0) (by simpa using hD)⟩
theorem Cn.sub {D B C : Nat} {x y : Rat} (hx : Cn D B x) (hy : Cn D C y) (D0 : 0 < D) : Cn D (B + C) (x - y) := by
  rw [Rat.sub_eq_add_neg]
  exact hx.add hy.neg D0
theorem Cn.wider {D B E : Nat} {x : Rat} (h : Cn D B x) (E0 : 0 < E) : Cn (D * E) (B * E) x := by
  obtain ⟨m, rfl, h1⟩ := h
  refine ⟨m * E, ?_, ?_⟩
  · rw [Int.natCast_mul, Rat.divInt_mul_right (by omega)]
  · rw [Int.natAbs_mul]
    exact Nat.mul_le_mul h1 (by simp)
theorem Cn.int {n : Int} {B : Nat} (h : n.natAbs ≤ B) : Cn 1 B (n : Rat) := ⟨n, (Rat.num_divInt_den (n : Rat)).symm, h⟩
theorem Cn.divInt {n d : Int} {B D : Nat} (hd : 0 < d) (hD : d ∣ D) (D0 : 0 < D) (h : n.natAbs ≤ B) : Cn D (B * D) (Rat.divInt n d) := by
  obtain ⟨a, ha⟩ := hD
  have a0 : 0 < a := by
    rcases Int.lt_trichotomy a 0 with z | z | z
    · have := Int.mul_neg_of_pos_of_neg hd z
      omega
    · subst z
      omega
    · exact z
  have al : a.natAbs ≤ D := by
    have : a ≤ d * a := by
      have := Int.mul_le_mul_of_nonneg_right (show 1 ≤ d by omega) (Int.le_of_lt a0)
      omega
    omega
  refine ⟨n * a, ?_, ?_⟩
  · rw [← Rat.divInt_mul_right (show a ≠ 0 by omega), ← ha]
  · rw [Int.natAbs_mul]
    exact Nat.mul_le_mul h al
end MR

set_option Elab.async false
set_option linter.all false
set_option maxRecDepth 100000
set_option maxHeartbeats 1000000
/-! PC: how the mirrors of methods, fields and dicts reckon; a market by places. -/
namespace MR
open PySem L2
section
variable {α : Type} {a b z : ME} {ma : MA} {ρ : List D} {d x y : D} {ds dd : List D} {e : Err} {i j c : Nat} {m f : Str} {g : MP} {gb : MPB} {sh : Sh}
def RR.meth (o : RR D) (c : Nat) (m : Str) (g : MP) (dd : List D) (ma : MA) : RR D := o.bind fun x ρ1 => if noName m x = true ∧ kindOk (.i c .nil) x = true then (ma ρ1).call (fun ds => g (x :: ds)) dd else .bad
@[simp] theorem mMeth_eq : mMeth c m g dd a ma ρ = (a ρ).meth c m g dd ma := by
  unfold mMeth RR.meth RR.call
  rfl
theorem meth_ok (h1 : noName m x = true) (h2 : kindOk (.i c .nil) x = true) : (RR.ok x ρ).meth c m g dd ma = (ma ρ).call (fun ds => g (x :: ds)) dd := by
  show (if noName m x = true ∧ kindOk (.i c .nil) x = true then _ else _) = _
  rw [if_pos ⟨h1, h2⟩]
@[simp] theorem meth_exc : (RR.exc e ρ : RR D).meth c m g dd ma = .exc e ρ := rfl
@[simp] theorem meth_bad : (RR.bad : RR D).meth c m g dd ma = .bad := rfl
/-- a def that works on its first argument -/
def RB.to (o : RB) (ρ : List D) (i : Nat) : RR D := match o with
  | .ok d d1 => .ok d (ρ.set i d1)
  | .exc e d1 => .exc e (ρ.set i d1)
  | .bad => .bad
@[simp] theorem bto_ok : (RB.ok d x).to ρ i = .ok d (ρ.set i x) := rfl
@[simp] theorem bto_exc : (RB.exc e x).to ρ i = .exc e (ρ.set i x) := rfl
@[simp] theorem bto_bad : RB.bad.to ρ i = .bad := rfl
def RR.callB (o : RR (List D)) (i : Nat) (sh : Sh) (gb : MPB) (dd : List D) : RR D := o.bind fun ds ρ1 => if kindOk sh (ρ1.getD i .non) = true then (gb (ρ1.getD i .non :: (ds ++ dd))).to ρ1 i else .bad
@[simp] theorem mCallB_eq : mCallB i sh gb dd ma ρ = (ma ρ).callB i sh gb dd := by
  unfold mCallB RR.callB RB.to
  rfl
@[simp] theorem callB_ok : (RR.ok ds ρ).callB i sh gb dd = if kindOk sh (ρ.getD i .non) = true then (gb (ρ.getD i .non :: (ds ++ dd))).to ρ i else .bad := rfl
@[simp] theorem callB_exc : (RR.exc e ρ : RR (List D)).callB i sh gb dd = .exc e ρ := rfl
@[simp] theorem callB_bad : (RR.bad : RR (List D)).callB i sh gb dd = .bad := rfl
@[simp] theorem mMethB_eq : mMethB i sh m gb dd ma ρ = if noName m (ρ.getD i .non) = true ∧ kindOk sh (ρ.getD i .non) = true then (ma ρ).callB i sh gb dd else .bad := by
  unfold mMethB
  rw [mCallB_eq]
def RR.make (o : RR (List D)) (c : Nat) (gb : MPB) (dd : List D) : RR D := o.bind fun ds ρ1 => match gb (.ins c [] :: (ds ++ dd)) with
  | .ok .non d1 => .ok d1 ρ1
  | .ok _ _ => .bad
  | .exc e _ => .exc e ρ1
  | .bad => .bad
@[simp] theorem mMake_eq : mMake c gb dd ma ρ = (ma ρ).make c gb dd := rfl
theorem make_ok (h : gb (.ins c [] :: (ds ++ dd)) = .ok .non x) : (RR.ok ds ρ).make c gb dd = .ok x ρ := by
  show (match gb (.ins c [] :: (ds ++ dd)) with
  | .ok .non d1 => (RR.ok d1 ρ : RR D)
  | .ok _ _ => .bad
  | .exc e _ => .exc e ρ
  | .bad => .bad) = _
  rw [h]
theorem make_exc' (h : gb (.ins c [] :: (ds ++ dd)) = .exc e x) : (RR.ok ds ρ).make c gb dd = .exc e ρ := by
  show (match gb (.ins c [] :: (ds ++ dd)) with
  | .ok .non d1 => (RR.ok d1 ρ : RR D)
  | .ok _ _ => .bad
  | .exc e _ => .exc e ρ
  | .bad => .bad) = _
  rw [h]
@[simp] theorem make_exc : (RR.exc e ρ : RR (List D)).make c gb dd = .exc e ρ := rfl
@[simp] theorem make_bad : (RR.bad : RR (List D)).make c gb dd = .bad := rfl
theorem mDefB_ret {rm : Mode} {k : Nat} {s : MS} {σ : List D} (h : s (ds ++ List.replicate k .non) = .ret d σ) : mDefB rm k s ds = .ok d (σ.getD 0 .non) := by unfold mDefB; rw [h]
theorem mDefB_nx {k : Nat} {s : MS} {σ : List D} (h : s (ds ++ List.replicate k .non) = .nx σ) : mDefB .d k s ds = .ok .non (σ.getD 0 .non) := by unfold mDefB; rw [h]
theorem mDefB_exc {rm : Mode} {k : Nat} {s : MS} {σ : List D} (h : s (ds ++ List.replicate k .non) = .exc e σ) : mDefB rm k s ds = .exc e (σ.getD 0 .non) := by unfold mDefB; rw [h]
theorem mDefI_nx {k : Nat} {s : MS} {σ : List D} (h : s (ds ++ List.replicate k .non) = .nx σ) : mDefI k s ds = .ok .non (σ.getD 0 .non) := by unfold mDefI; rw [h]
theorem mDefI_exc {k : Nat} {s : MS} {σ : List D} (h : s (ds ++ List.replicate k .non) = .exc e σ) : mDefI k s ds = .exc e .non := by unfold mDefI; rw [h]
/-- dicts -/
def RR.dget2 (o : RR D) (b z : ME) : RR D := o.bind fun c ρ1 => if isDict c = true then (b ρ1).bind fun k ρ2 => (z ρ2).bind fun d ρ3 => RR.of ((fDGet c k).map fun o => o.getD d) ρ3 else .bad
@[simp] theorem mDGet2_eq : mDGet2 a b z ρ = (a ρ).dget2 b z := rfl
theorem dget2_ok {ρ2 ρ3 : List D} {v : D} {o : Option D} (h : isDict x = true) (hb : b ρ = .ok y ρ2) (hz : z ρ2 = .ok d ρ3) (g : fDGet x y = some o) : (RR.ok x ρ).dget2 b z = .ok (o.getD d) ρ3 := by
  show (if isDict x = true then (b ρ).bind _ else _) = _
  rw [if_pos h, hb]
  show (z ρ2).bind _ = _
  rw [hz]
  show RR.of ((fDGet x y).map fun o => o.getD d) ρ3 = _
  rw [g]
  rfl
@[simp] theorem mItS_eq : mItS a ρ = (a ρ).un (fun d => match d with | .str x => some (signsOf x) | _ => none) := rfl
theorem pNotInL_ok {b : ME} {ρ ρ1 : List D} {x : D} {ds : List D} {q : Bool} {r : Sh} (hb : b ρ = .ok x ρ1) (h : ρ1.getD i .non = .lst ds) (g : fIn x (.lst ds) = some q) : mPNotInL b (plW i (.l r)) ρ = .ok (!q) ρ1 := by
  unfold mPNotInL
  rw [hb]
  show (match (plW i (.l r)).rd ρ1 ρ1 with
  | some (.lst ds) => RR.of ((fIn x (.lst ds)).map (!·)) ((plW i (.l r)).re ρ1 ρ1)
  | _ => (.bad : RR Bool)) = _
  have e : (plW i (.l r)).rd ρ1 ρ1 = some (.lst ds) := by
    show (if kindOk (.l r) (ρ1.getD i .non) = true then some (ρ1.getD i .non) else none) = _
    rw [h]
    rfl
  rw [e]
  show RR.of ((fIn x (.lst ds)).map (!·)) ρ1 = _
  rw [g]
  rfl
theorem pInL_ok {b : ME} {ρ ρ1 : List D} {x : D} {ds : List D} {q : Bool} {r : Sh} (hb : b ρ = .ok x ρ1) (h : ρ1.getD i .non = .lst ds) (g : fIn x (.lst ds) = some q) : mPInL b (plW i (.l r)) ρ = .ok q ρ1 := by
  unfold mPInL
  rw [hb]
  show (match (plW i (.l r)).rd ρ1 ρ1 with
  | some (.lst ds) => RR.of (fIn x (.lst ds)) ((plW i (.l r)).re ρ1 ρ1)
  | _ => (.bad : RR Bool)) = _
  have e : (plW i (.l r)).rd ρ1 ρ1 = some (.lst ds) := by
    show (if kindOk (.l r) (ρ1.getD i .non) = true then some (ρ1.getD i .non) else none) = _
    rw [h]
    rfl
  rw [e]
  show RR.of (fIn x (.lst ds)) ρ1 = _
  rw [g]
  rfl
theorem pIn_ok {b : ME} {ρ ρ1 : List D} {x cc : D} {q : Bool} (hb : b ρ = .ok x ρ1) (h : kidAt sh f j (ρ1.getD i .non) = some cc) (g : fDIn cc x = some q) : mPIn b (plK i sh f j) ρ = .ok q (ρ1.set i (ρ1.getD i .non)) := by
  unfold mPIn
  rw [hb]
  show (match (plK i sh f j).rd ρ1 ρ1 with
  | none => (.bad : RR Bool)
  | some c => RR.of (fDIn c x) ((plK i sh f j).re ρ1 ρ1)) = _
  rw [show (plK i sh f j).rd ρ1 ρ1 = some cc from h]
  show RR.of (fDIn cc x) ((plK i sh f j).re ρ1 ρ1) = _
  rw [g]
  rfl
theorem pPut_ok {b v : ME} {ρ ρ1 ρ2 : List D} {k d cc c2 : D} (hv : v ρ = .ok d ρ1) (hb : b ρ1 = .ok k ρ2) (h : kidAt sh f j (ρ1.getD i .non) = some cc) (g : fDPut cc k d = some c2) : mPPut (plK i sh f j) b v ρ = .nx (ρ2.set i (putKid (ρ1.getD i .non) j c2)) := by
  unfold mPPut
  rw [hv]
  have r1 : (plK i sh f j).rd ρ1 ρ1 = some cc := h
  have r2 : (plK i sh f j).rd ρ1 ρ2 = some cc := h
  simp only [r1, hb, r2, g]
  rfl
theorem pGet2_ok {b z : ME} {ρ ρ1 ρ2 : List D} {k d cc : D} {o : Option D} (hb : b ρ = .ok k ρ1) (hz : z ρ1 = .ok d ρ2) (h : kidAt sh f j (ρ.getD i .non) = some cc) (g : fDGet cc k = some o) : mPGet2 (plK i sh f j) b z ρ = .ok (o.getD d) (ρ2.set i (ρ.getD i .non)) := by
  unfold mPGet2
  have r1 : (plK i sh f j).rd ρ ρ = some cc := h
  have r2 : (plK i sh f j).rd ρ ρ2 = some cc := h
  simp only [r1, hb, hz, r2, g]
  rfl
@[simp] theorem mKidD_eq : mKidD i sh f j ρ = RR.of (kidAt sh f j (ρ.getD i .non)) ρ := rfl
end
/-! ### a market by places -/
structure Mk where
  n : Nat
  nm : Nat → Str
  ow : Nat → Str
  b : Nat → Rat
  o : Nat → Rat
  c : Nat → Rat
  cr : Nat → Nat → Rat
  kv : List (List Key × D)
def prd (m : Mk) (i : Nat) : D := .tup [.str (m.nm i), .str (m.ow i), rq (m.b i), rq (m.o i), rq (m.c i)]
def prodL (m : Mk) : List D := (List.range m.n).map (prd m)
def mkD (m : Mk) : D := .ins 0 [("products", .lst (prodL m)), ("_crosses", .dT m.kv)]
def pair (a b : Str) : List Key := [.inr a, .inr b]
structure MkOk (m : Mk) (D B : Nat) : Prop where
  n1 : 1 ≤ m.n
  n6 : m.n ≤ 6
  rise : ∀ i j, i < j → j < m.n → ltS (m.nm i) (m.nm j) = true
  crs : ∀ i j, i < m.n → j < m.n → (valD m.kv (pair (m.nm i) (m.nm j))).getD (rq 0) = rq (m.cr i j)
  self : ∀ i, i < m.n → m.cr i i = 0
  D0 : 0 < D
  D1 : D < 2 ^ 1000
  B1 : B < 2 ^ 1000
  bb : ∀ i, i < m.n → Cn D B (m.b i)
  bo : ∀ i, i < m.n → Cn D B (m.o i)
  bc : ∀ i, i < m.n → Cn D B (m.c i)
  bx : ∀ i j, i < m.n → j < m.n → Cn D B (m.cr i j)
theorem noName_mk {m : Mk} {f : Str} (h : (f == "products") = false) (h2 : (f == "_crosses") = false) : noName f (mkD m) = true := by
  unfold mkD noName
  simp [List.lookup, h, h2]
theorem kind_mk {m : Mk} {r : Sh} {c : Nat} (h : c = 0 := by rfl) : kindOk (.i c r) (mkD m) = true := by subst h; rfl
@[simp] theorem fld_products {m : Mk} : fFld 0 "products" (mkD m) = some (.lst (prodL m)) := by
  unfold mkD fFld
  simp [List.lookup]
@[simp] theorem fld_crosses {m : Mk} : fFld 0 "_crosses" (mkD m) = some (.dT m.kv) := by
  unfold mkD fFld
  have h : ((Str.ofString "_crosses") == (Str.ofString "products")) = false := by decide +kernel
  simp [List.lookup, h]
section
variable {m : Mk} {D B : Nat} {ρ : List MR.D} {ma : MA} {g : MP} {dd : List MR.D}
theorem meth_mk {f : Str} (h : (f == "products") = false := by decide +kernel) (h2 : (f == "_crosses") = false := by decide +kernel) : (RR.ok (mkD m) ρ).meth 0 f g dd ma = (ma ρ).call (fun ds => g (mkD m :: ds)) dd := meth_ok (noName_mk h h2) kind_mk
@[simp] theorem meth_cross : (RR.ok (mkD m) ρ).meth 0 "cross" g dd ma = (ma ρ).call (fun ds => g (mkD m :: ds)) dd := meth_mk
@[simp] theorem meth_names : (RR.ok (mkD m) ρ).meth 0 "names" g dd ma = (ma ρ).call (fun ds => g (mkD m :: ds)) dd := meth_mk
@[simp] theorem meth_owners : (RR.ok (mkD m) ρ).meth 0 "owners" g dd ma = (ma ρ).call (fun ds => g (mkD m :: ds)) dd := meth_mk
@[simp] theorem meth_owned : (RR.ok (mkD m) ρ).meth 0 "owned" g dd ma = (ma ρ).call (fun ds => g (mkD m :: ds)) dd := meth_mk
@[simp] theorem meth_product : (RR.ok (mkD m) ρ).meth 0 "product" g dd ma = (ma ρ).call (fun ds => g (mkD m :: ds)) dd := meth_mk
@[simp] theorem meth_rivalries : (RR.ok (mkD m) ρ).meth 0 "rivalries" g dd ma = (ma ρ).call (fun ds => g (mkD m :: ds)) dd := meth_mk
@[simp] theorem meth_demands : (RR.ok (mkD m) ρ).meth 0 "demands" g dd ma = (ma ρ).call (fun ds => g (mkD m :: ds)) dd := meth_mk
@[simp] theorem meth_with_owners : (RR.ok (mkD m) ρ).meth 0 "with_owners" g dd ma = (ma ρ).call (fun ds => g (mkD m :: ds)) dd := meth_mk
@[simp] theorem meth_with_costs : (RR.ok (mkD m) ρ).meth 0 "with_costs" g dd ma = (ma ρ).call (fun ds => g (mkD m :: ds)) dd := meth_mk
theorem cross_any {a b : Str} : RM.m_Market_cross [mkD m, .str a, .str b] = .ok ((valD m.kv (pair a b)).getD (rq 0)) := by
  unfold RM.m_Market_cross
  rw [mDef_eq]
  unfold RM.b_Market_cross
  simp [RR.dget2, isDict, fDGet, keysOf, keyOf]
  rfl
theorem cross_eqM (h : MkOk m D B) {i j : Nat} (hi : i < m.n) (hj : j < m.n) : RM.m_Market_cross [mkD m, .str (m.nm i), .str (m.nm j)] = .ok (rq (m.cr i j)) := by
  rw [cross_any, h.crs i j hi hj]
end
end MR

set_option Elab.async false
set_option linter.all false
set_option maxRecDepth 100000
set_option maxHeartbeats 1000000
/-! PA: a market's names, demands and profits. -/
namespace MR
open PySem L2
theorem forL_rng_aux {g : MB} {s1 : MS} {f : Nat → D} (ρ : Nat → List D) : ∀ (n j : Nat), (∀ k, j ≤ k → k < j + n → ∃ ρ1, g (f k) (ρ k) = some ρ1 ∧ (s1 ρ1 = .nx (ρ (k + 1)) ∨ s1 ρ1 = .cnt (ρ (k + 1)))) →
    forL g s1 ((List.range' j n).map f) (ρ j) = .nx (ρ (j + n))
  | 0, j, _ => rfl
  | n + 1, j, h => by
    obtain ⟨ρ1, h1, h2⟩ := h j (Nat.le_refl j) (by omega)
    rw [List.range'_succ, List.map_cons, forL_cons, h1, bindO_some]
    have ih := forL_rng_aux ρ n (j + 1) fun k h1 h2 => h k (by omega) (by omega)
    rw [show j + 1 + n = j + (n + 1) by omega] at ih
    rcases h2 with e | e
    · rw [e, loop_nx]; exact ih
    · rw [e, loop_cnt]; exact ih
/-- a loop over a list that is told by places -/
theorem forL_rng {g : MB} {s1 : MS} {f : Nat → D} (ρ : Nat → List D) (n : Nat) (h : ∀ k, k < n → ∃ ρ1, g (f k) (ρ k) = some ρ1 ∧ (s1 ρ1 = .nx (ρ (k + 1)) ∨ s1 ρ1 = .cnt (ρ (k + 1)))) :
    forL g s1 ((List.range n).map f) (ρ 0) = .nx (ρ n) := by
  have := forL_rng_aux (s1 := s1) (g := g) (f := f) ρ n 0 fun k _ h2 => h k (by omega)
  rw [Nat.zero_add] at this
  rw [List.range_eq_range']
  exact this
/-- a comprehension over a list that is told by places -/
theorem lcL_rng {a : ME} {b : MB} {μ : List Mode} {ρ : List D} {n : Nat} {f : Nat → D} (g : Nat → D) (h : ∀ j, j < n → ∃ ρ1 ρ3, b (f j) ρ = some ρ1 ∧ a ρ1 = .ok (g j) ρ3 ∧ keep μ ρ3 = ρ) (hn : n ≤ 1000000 := by omega) :
    lcL b mYes a μ ((List.range n).map f) [] ρ = .ok (.lst ((List.range n).map g)) ρ :=
  lcL_of (List.range n) (fun x hx => h x (List.mem_range.mp hx)) (by simpa using hn)
theorem mapIdx_rng {n : Nat} {f : Nat → D} : ((List.range n).map f).mapIdx (fun i d => D.tup [.int (i : Nat), d]) = (List.range n).map fun (i : Nat) => D.tup [.int i, f i] := by
  refine List.ext_getElem (by simp) fun i h1 h2 => ?_
  simp
theorem zip_rng {n : Nat} {f g : Nat → D} : List.zipWith (fun u w => D.tup [u, w]) ((List.range n).map f) ((List.range n).map g) = (List.range n).map fun i => D.tup [f i, g i] := by
  refine List.ext_getElem (by simp) fun i h1 h2 => ?_
  simp
section
variable {m : Mk} {D B : Nat}
theorem prodL_len : (prodL m).length = m.n := by simp [prodL]
theorem names_eqM (h : MkOk m D B) : RM.m_Market_names [mkD m] = .ok (.lst ((List.range m.n).map fun i => .str (m.nm i))) := by
  have n6 := h.n6
  unfold RM.m_Market_names
  rw [mDef_eq]
  unfold RM.b_Market_names RM.b_Market_names_C0
  simp
  unfold prodL
  rw [lcL_rng (fun i => .str (m.nm i))]
  · rfl
  · intro j hj
    refine ⟨_, [mkD m, prd m j], rfl, ?_, rfl⟩
    unfold RM.b_Market_names_C0e
    simp [prd]
/-- the demand for a product at prices -/
def dem (m : Mk) (p : Nat → Rat) (i : Nat) : Rat := m.b i - m.o i * p i + sm m.n fun j => m.cr i j * p j
/-- the prices are no greater than what comes up -/
structure PrOk (m : Mk) (p : Nat → Rat) (E C : Nat) : Prop where
  E0 : 0 < E
  E1 : E < 2 ^ 1000
  C1 : C < 2 ^ 3000000
  bp : ∀ i, i < m.n → Cn E C (p i)
/-- how great what comes up is -/
def bd (B C D E : Nat) : Nat := 8 * (B * C + B * E)
theorem wd_small {D B k l : Nat} {x : Rat} (h : Cn D B x) (D0 : 0 < D) (hD : D < 2 ^ k) (hB : B < 2 ^ l) (hk : k ≤ 4000 := by decide) (hl : l ≤ 10000000 := by decide) : Wd x :=
  h.wd D0 (Nat.lt_of_lt_of_le hD (Nat.pow_le_pow_right (by decide) hk)) (Nat.lt_of_lt_of_le hB (Nat.pow_le_pow_right (by decide) hl))
theorem add_lt {a b k : Nat} (h1 : a < 2 ^ k) (h2 : b < 2 ^ k) : a + b < 2 ^ (k + 1) := by rw [Nat.pow_succ]; omega
theorem le_pow {a k l : Nat} (h : a < 2 ^ k) (e : k ≤ l := by decide) : a < 2 ^ l := Nat.lt_of_lt_of_le h (Nat.pow_le_pow_right (by decide) e)
theorem bd_lt {B C D E a b : Nat} (hB : B < 2 ^ a) (hC : C < 2 ^ b) (hE : E < 2 ^ b) : bd B C D E < 2 ^ (a + b + 4) := by
  have x := mul_bits hB hC
  have y := mul_bits hB hE
  unfold bd
  have e : (2 : Nat) ^ (a + b + 4) = 2 ^ (a + b) * 16 := by rw [Nat.pow_add]
  rw [e]
  generalize 2 ^ (a + b) = z at x y
  omega
theorem dem_part {p : Nat → Rat} {E C i k : Nat} (h : MkOk m D B) (hp : PrOk m p E C) (hi : i < m.n) (hk : k ≤ m.n) : Cn (D * E) (bd B C D E) (m.b i - m.o i * p i + sm k fun j => m.cr i j * p j) := by
  have n6 := h.n6
  have de : 0 < D * E := Nat.mul_pos h.D0 hp.E0
  have c1 : Cn (D * E) (B * E) (m.b i) := (h.bb i hi).wider hp.E0
  have c2 : Cn (D * E) (B * C) (m.o i * p i) := (h.bo i hi).mul (hp.bp i hi)
  have c3 : Cn (D * E) (k * (B * C)) (sm k fun j => m.cr i j * p j) := Cn.sm (fun c hc => (h.bx i c hi (by omega)).mul (hp.bp c (by omega))) de
  refine ((c1.sub c2 de).add c3 de).mono ?_
  have : k * (B * C) ≤ 6 * (B * C) := Nat.mul_le_mul (by omega) (Nat.le_refl _)
  unfold bd
  omega
theorem de_lt {p : Nat → Rat} {E C : Nat} (h : MkOk m D B) (hp : PrOk m p E C) : 0 < D * E ∧ D * E < 2 ^ 2000 := ⟨Nat.mul_pos h.D0 hp.E0, mul_bits h.D1 hp.E1⟩
theorem dem_wd {p : Nat → Rat} {E C i k : Nat} (h : MkOk m D B) (hp : PrOk m p E C) (hi : i < m.n) (hk : k ≤ m.n) : Wd (m.b i - m.o i * p i + sm k fun j => m.cr i j * p j) :=
  wd_small (dem_part h hp hi hk) (de_lt h hp).1 (de_lt h hp).2 (bd_lt h.B1 hp.C1 (le_pow hp.E1))
theorem MkOk.wd {x : Rat} (h : MkOk m D B) (hx : Cn D B x) : Wd x := wd_small hx h.D0 h.D1 h.B1
theorem PrOk.wd {p : Nat → Rat} {E C : Nat} (hp : PrOk m p E C) {i : Nat} (hi : i < m.n) : Wd (p i) := wd_small (hp.bp i hi) hp.E0 hp.E1 hp.C1
theorem mul_wd {p : Nat → Rat} {E C : Nat} {x : Rat} (h : MkOk m D B) (hp : PrOk m p E C) (hx : Cn D B x) {i : Nat} (hi : i < m.n) : Wd (x * p i) :=
  wd_small (hx.mul (hp.bp i hi)) (de_lt h hp).1 (de_lt h hp).2 (mul_bits h.B1 hp.C1)
theorem ix_rng {n j : Nat} {f : Nat → MR.D} (h : j < n) : fIx (.lst ((List.range n).map f)) (.int j) = some (f j) := by
  have := atI_map (f := f) (xs := List.range n) (n := j) (by simpa using h)
  simpa [fIx] using this
theorem rowL_snoc {n : Nat} {f : Nat → Rat} : rowL n f ++ [f n] = rowL (n + 1) f := by simp [rowL, List.range_succ]
@[simp] theorem rowL_zero {f : Nat → Rat} : rowL 0 f = [] := rfl
theorem zip_np {n : Nat} {f : Nat → MR.D} {p : Nat → Rat} : zip2 [.lst ((List.range n).map f), rql (rowL n p)] = some ((List.range n).map fun j => MR.D.tup [f j, rq (p j)]) := by
  unfold rql rowL
  rw [List.map_map]
  exact congrArg some zip_rng
theorem enum_prod : enum1 [.lst (prodL m)] = some ((List.range m.n).map fun i => MR.D.tup [.int (i : Nat), prd m i]) := congrArg some mapIdx_rng
theorem demands_eqM {p : Nat → Rat} {E C : Nat} (h : MkOk m D B) (hp : PrOk m p E C) : RM.m_Market_demands [mkD m, rql (rowL m.n p)] = .ok (rql (rowL m.n (dem m p))) := by
  have n6 := h.n6
  have nm := names_eqM h
  have z : MR.D.tup [.int 0, .int 1] = rq 0 := rfl
  have row : ∀ i, i < m.n → ∀ acc at' : MR.D, forL (bTup 2 (bCons (bName 11) (bCons (bName 12) bNil))) RM.b_Market_demands_L1 ((List.range m.n).map fun j => MR.D.tup [.str (m.nm j), rq (p j)])
      [mkD m, rql (rowL m.n p), .lst ((List.range m.n).map fun i => .str (m.nm i)), acc, .non, .str (m.nm i), .non, .non, .non, .non, rq (m.b i - m.o i * p i), .non, .non] =
      .nx [mkD m, rql (rowL m.n p), .lst ((List.range m.n).map fun i => .str (m.nm i)), acc, .non, .str (m.nm i), .non, .non, .non, .non, rq (dem m p i), .non, .non] := by
    intro i hi acc at'
    have := forL_rng (g := bTup 2 (bCons (bName 11) (bCons (bName 12) bNil))) (s1 := RM.b_Market_demands_L1) (f := fun j => MR.D.tup [.str (m.nm j), rq (p j)])
      (fun k => [mkD m, rql (rowL m.n p), .lst ((List.range m.n).map fun i => .str (m.nm i)), acc, .non, .str (m.nm i), .non, .non, .non, .non, rq (m.b i - m.o i * p i + sm k fun j => m.cr i j * p j), .non, .non]) m.n fun k hk => by
        refine ⟨_, rfl, .inl ?_⟩
        have t := times_w (h.wd (h.bx i k hi hk)) (hp.wd hk)
        have ad := add_w (dem_wd h hp hi (k := k) (by omega)) (mul_wd h hp (h.bx i k hi hk) hk)
        unfold RM.b_Market_demands_L1
        simp [cross_eqM h hi hk, t, ad]
        rw [sm_succ, Rat.add_assoc]
        exact ⟨rfl, rfl⟩
    rw [sm_zero, Rat.add_zero] at this
    exact this
  have go := forL_rng (g := bTup 2 (bCons (bName 4) (bCons (bTup 5 (bCons (bName 5) (bCons (bName 6) (bCons (bName 7) (bCons (bName 8) (bCons (bName 9) bNil)))))) bNil))) (s1 := RM.b_Market_demands_L0) (f := fun i => MR.D.tup [.int (i : Nat), prd m i])
    (fun k => [mkD m, rql (rowL m.n p), .lst ((List.range m.n).map fun i => .str (m.nm i)), rql (rowL k (dem m p)), .non, .non, .non, .non, .non, .non, .non, .non, .non]) m.n fun k hk => by
      refine ⟨_, rfl, .inl ?_⟩
      have t := times_w (h.wd (h.bo k hk)) (hp.wd hk)
      have sb := sub_w (h.wd (h.bb k hk)) (mul_wd h hp (h.bo k hk) hk)
      have rw' := row k hk (rql (rowL k (dem m p))) .non
      unfold RM.b_Market_demands_L0
      have kl : k < 1000000 := by omega
      simp [prd, ix_rowL hk, t, sb, zip_np, rw', kl, rowL_len, rql_snoc, rowL_snoc]
  unfold RM.m_Market_demands
  rw [mDef_eq]
  unfold RM.b_Market_demands
  simp [nm, enum_prod, rql_nil]
  have go2 := go
  simp only [rowL_zero] at go2
  rw [go2]
  rfl
theorem fIn_strs {a : Str} {xs : List Str} : fIn (.str a) (.lst (xs.map MR.D.str)) = some (decide (a ∈ xs)) := by
  have e : fIn (.str a) (.lst (xs.map MR.D.str)) = (if flatD (MR.D.str a) = true ∧ (xs.map MR.D.str).all flatD = true then some ((xs.map MR.D.str).any fun y => eqF y (.str a)) else none) := rfl
  have f : (xs.map MR.D.str).all flatD = true := by simp [flatD]
  rw [e, if_pos ⟨rfl, f⟩]
  congr 1
  rw [Bool.eq_iff_iff]
  simp [eqF]
theorem fNotIn_strs {a : Str} {xs : List Str} : fNotIn (.str a) (.lst (xs.map MR.D.str)) = some (!decide (a ∈ xs)) := by
  unfold fNotIn
  rw [fIn_strs]
  rfl
/-- the owners as they come, each once -/
def found (f : Nat → Str) : Nat → List Str
  | 0 => []
  | k + 1 => if f k ∈ found f k then found f k else found f k ++ [f k]
theorem found_mem {f : Nat → Str} {a : Str} {n : Nat} : a ∈ found f n ↔ ∃ i, i < n ∧ f i = a := by
  induction n with
  | zero => simp [found]
  | succ n ih =>
    show a ∈ (if f n ∈ found f n then found f n else found f n ++ [f n]) ↔ _
    have key : (∃ i, i < n + 1 ∧ f i = a) ↔ (∃ i, i < n ∧ f i = a) ∨ f n = a := by
      constructor
      · rintro ⟨i, h1, h2⟩
        by_cases e : i = n
        · rw [e] at h2
          exact .inr h2
        · exact .inl ⟨i, by omega, h2⟩
      · rintro (⟨i, h1, h2⟩ | h)
        · exact ⟨i, by omega, h2⟩
        · exact ⟨n, by omega, h⟩
    rw [key]
    split
    · rename_i h
      rw [ih]
      constructor
      · exact .inl
      · rintro (h2 | h2)
        · exact h2
        · rw [h2] at h
          exact ih.mp h
    · simp only [List.mem_append, List.mem_singleton, ih]
      constructor
      · rintro (h | h)
        · exact .inl h
        · exact .inr h.symm
      · rintro (h | h)
        · exact .inl h
        · exact .inr h.symm
theorem found_len {f : Nat → Str} : ∀ {n : Nat}, (found f n).length ≤ n
  | 0 => by simp [found]
  | n + 1 => by
    have := found_len (f := f) (n := n)
    unfold found
    split
    · omega
    · simp; omega
def ownersL (m : Mk) : List Str := sortS (found m.ow m.n)
theorem ownersL_mem {a : Str} : a ∈ ownersL m ↔ ∃ i, i < m.n ∧ m.ow i = a := by
  unfold ownersL
  rw [← found_mem]
  exact (sortB_perm (lt := ltS) _).mem_iff
theorem owners_eqM (h : MkOk m D B) : RM.m_Market_owners [mkD m] = .ok (.lst ((ownersL m).map .str)) := by
  have n6 := h.n6
  have go := forL_rng (g := bName 2) (s1 := RM.b_Market_owners_L0) (f := prd m) (fun k => [mkD m, .lst ((found m.ow k).map .str), .non]) m.n fun k hk => by
    refine ⟨_, rfl, .inl ?_⟩
    have l := found_len (f := m.ow) (n := k)
    have l2 : (found m.ow k).length < 1000000 := by omega
    have t := pNotInL_ok (i := 1) (r := .all .d) (b := mOp fIx (mVar 2) (mC (.int 1))) (ρ := [mkD m, .lst ((found m.ow k).map .str), prd m k]) (x := .str (m.ow k)) (ρ1 := [mkD m, .lst ((found m.ow k).map .str), prd m k]) (by simp [prd]) rfl fIn_strs
    have e : found m.ow (k + 1) = if m.ow k ∈ found m.ow k then found m.ow k else found m.ow k ++ [m.ow k] := rfl
    unfold RM.b_Market_owners_L0
    simp only [List.set, mIf_eq, t, e]
    by_cases q : m.ow k ∈ found m.ow k
    · simp [q]
    · simp [q, l2, prd]
  have l := found_len (f := m.ow) (n := m.n)
  unfold RM.m_Market_owners
  rw [mDef_eq]
  unfold RM.b_Market_owners
  simp
  rw [show (found m.ow 0).map MR.D.str = [] from rfl] at go
  rw [show prodL m = (List.range m.n).map (prd m) from rfl, go]
  have l3 : (found m.ow m.n).length < 64 := by omega
  simp [fSorted, fSortS, strsOf_map, l3, ownersL]
/-- an owner's profit at prices -/
def pro (m : Mk) (a : Str) (p : Nat → Rat) : Rat := sm m.n fun i => if m.ow i = a then (p i - m.c i) * dem m p i else 0
def bp (B C D E : Nat) : Nat := 6 * ((C * D + B * E) * bd B C D E)
theorem bp_lt {B C D E a b : Nat} (hB : B < 2 ^ a) (hC : C < 2 ^ b) (hE : E < 2 ^ b) (hD : D < 2 ^ a) : bp B C D E < 2 ^ (a + b + 1 + (a + b + 4) + 3) := by
  have x := mul_bits hC hD
  have y := mul_bits hB hE
  rw [Nat.add_comm b a] at x
  have z := mul_bits (add_lt x y) (bd_lt (D := D) hB hC hE)
  unfold bp
  have e : (2 : Nat) ^ (a + b + 1 + (a + b + 4) + 3) = 2 ^ (a + b + 1 + (a + b + 4)) * 8 := by rw [Nat.pow_add]
  rw [e]
  generalize 2 ^ (a + b + 1 + (a + b + 4)) = w at z
  omega
section
variable {p : Nat → Rat} {E C : Nat}
theorem gain_cn (h : MkOk m D B) (hp : PrOk m p E C) {i : Nat} (hi : i < m.n) : Cn (E * D) (C * D + B * E) (p i - m.c i) := by
  have c1 : Cn (E * D) (C * D) (p i) := (hp.bp i hi).wider h.D0
  have c2 : Cn (E * D) (B * E) (m.c i) := by rw [Nat.mul_comm]; exact (h.bc i hi).wider hp.E0
  exact c1.sub c2 (Nat.mul_pos hp.E0 h.D0)
theorem dem_cn (h : MkOk m D B) (hp : PrOk m p E C) {i : Nat} (hi : i < m.n) : Cn (D * E) (bd B C D E) (dem m p i) := dem_part h hp hi (Nat.le_refl _)
theorem term_cn (h : MkOk m D B) (hp : PrOk m p E C) {i : Nat} (hi : i < m.n) : Cn (E * D * (D * E)) ((C * D + B * E) * bd B C D E) ((p i - m.c i) * dem m p i) := (gain_cn h hp hi).mul (dem_cn h hp hi)
theorem ed_lt (h : MkOk m D B) (hp : PrOk m p E C) : 0 < E * D * (D * E) ∧ E * D * (D * E) < 2 ^ 4000 := by
  have a := mul_bits (mul_bits hp.E1 h.D1) (mul_bits h.D1 hp.E1)
  exact ⟨Nat.mul_pos (Nat.mul_pos hp.E0 h.D0) (Nat.mul_pos h.D0 hp.E0), a⟩
theorem bp_ok (h : MkOk m D B) (hp : PrOk m p E C) : bp B C D E < 2 ^ 10000000 := le_pow (bp_lt (a := 1000) (b := 3000000) h.B1 hp.C1 (le_pow hp.E1) h.D1) (by decide)
theorem pro_wd (h : MkOk m D B) (hp : PrOk m p E C) {a : Str} {k : Nat} (hk : k ≤ m.n) : Wd (sm k fun i => if m.ow i = a then (p i - m.c i) * dem m p i else 0) := by
  have n6 := h.n6
  refine wd_small (Cn.mono (Cn.sm (n := k) (D := E * D * (D * E)) (B := (C * D + B * E) * bd B C D E) (fun c hc => ?_) (ed_lt h hp).1) ?_) (ed_lt h hp).1 (ed_lt h hp).2 (bp_ok h hp)
  · split
    · exact term_cn h hp (by omega)
    · exact .zero
  · exact Nat.mul_le_mul (by omega) (Nat.le_refl _)
theorem term_wd (h : MkOk m D B) (hp : PrOk m p E C) {i : Nat} (hi : i < m.n) : Wd ((p i - m.c i) * dem m p i) := by
  refine wd_small ((term_cn h hp hi).mono ?_) (ed_lt h hp).1 (ed_lt h hp).2 (bp_ok h hp)
  unfold bp
  omega
theorem gain_wd (h : MkOk m D B) (hp : PrOk m p E C) {i : Nat} (hi : i < m.n) : Wd (p i - m.c i) := by
  refine wd_small (gain_cn h hp hi) (Nat.mul_pos hp.E0 h.D0) (mul_bits hp.E1 h.D1) (add_lt (mul_bits hp.C1 h.D1) (le_pow (mul_bits h.B1 hp.E1)))
theorem demw (h : MkOk m D B) (hp : PrOk m p E C) {i : Nat} (hi : i < m.n) : Wd (dem m p i) := dem_wd h hp hi (Nat.le_refl _)
theorem profit_eqM (h : MkOk m D B) (hp : PrOk m p E C) {a : Str} (ha : a ∈ ownersL m) : RM.m_profit [mkD m, .str a, rql (rowL m.n p)] = .ok (rq (pro m a p)) := by
  have n6 := h.n6
  have z : MR.D.tup [.int 0, .int 1] = rq 0 := rfl
  have ow := owners_eqM h
  have dm := demands_eqM h hp
  have go := forL_rng (g := bTup 2 (bCons (bName 5) (bCons (bName 6) bNil))) (s1 := RM.b_profit_L0) (f := fun i => MR.D.tup [.int (i : Nat), prd m i])
    (fun k => [mkD m, .str a, rql (rowL m.n p), rq (sm k fun i => if m.ow i = a then (p i - m.c i) * dem m p i else 0), rql (rowL m.n (dem m p)), .non, .non]) m.n fun k hk => by
      refine ⟨_, rfl, .inl ?_⟩
      have sb := sub_w (hp.wd hk) (h.wd (h.bc k hk))
      have t := times_w (gain_wd h hp hk) (demw h hp hk)
      have ad := add_w (pro_wd h hp (a := a) (k := k) (by omega)) (term_wd h hp hk)
      unfold RM.b_profit_L0
      by_cases q : m.ow k = a
      · simp [prd, q, ix_rowL hk, sb, t]
        rw [ad]
        rw [sm_succ, if_pos q]
        rfl
      · simp [prd, q]
        rw [sm_succ, if_neg q, Rat.add_zero]
        exact ⟨rfl, rfl⟩
  rw [sm_zero] at go
  unfold RM.m_profit
  rw [mDef_eq]
  unfold RM.b_profit
  simp [ow, fNotIn_strs, ha, dm, enum_prod]
  rw [z, go]
  rfl
end
end
end MR

set_option Elab.async false
set_option linter.all false
set_option maxRecDepth 100000
set_option maxHeartbeats 1000000
/-! PE: sums of sums; a common denominator for the solution of equations. -/
namespace MR
open PySem L2
theorem sm_addf {n : Nat} {f g : Nat → Rat} : sm n (fun i => f i + g i) = sm n f + sm n g := by
  induction n with
  | zero => simp [sm_zero, Rat.add_zero]
  | succ n ih => rw [sm_succ, sm_succ, sm_succ, ih]; grind
theorem sm_subf {n : Nat} {f g : Nat → Rat} : sm n (fun i => f i - g i) = sm n f - sm n g := by
  induction n with
  | zero => simp [sm_zero]; grind
  | succ n ih => rw [sm_succ, sm_succ, sm_succ, ih]; grind
theorem sm_mull {n : Nat} {f : Nat → Rat} {k : Rat} : sm n (fun i => k * f i) = k * sm n f := by
  induction n with
  | zero => simp [sm_zero, Rat.mul_zero]
  | succ n ih => rw [sm_succ, sm_succ, ih]; grind
theorem sm_swap {n k : Nat} {f : Nat → Nat → Rat} : sm n (fun i => sm k (fun j => f i j)) = sm k (fun j => sm n (fun i => f i j)) := by
  induction n with
  | zero =>
    rw [sm_zero]
    exact (sm_none fun c _ => sm_zero _).symm
  | succ n ih =>
    rw [sm_succ, ih, ← sm_addf]
    exact sm_congr fun c _ => (sm_succ n _).symm
/-- a sum of Ints, as a ratio -/
theorem sm_int {n : Nat} {f : Nat → Int} : ∃ k : Int, sm n (fun i => (f i : Rat)) = (k : Rat) := by
  induction n with
  | zero => exact ⟨0, by simp [sm_zero]⟩
  | succ n ih =>
    obtain ⟨k, e⟩ := ih
    exact ⟨k + f n, by rw [sm_succ, e, Rat.intCast_add]⟩
/-- how many bits the common denominator has at most -/
def cb (b : Nat) : Nat → Nat
  | 0 => 0
  | n + 1 => cb (b + b + 1) n + b
def Whole (E : Int) (x : Rat) : Prop := ∃ k : Int, (E : Rat) * x = (k : Rat)
theorem Whole.mul {E F : Int} {x : Rat} (h : Whole E x) : Whole (E * F) x := by
  obtain ⟨k, e⟩ := h
  refine ⟨k * F, ?_⟩
  rw [Rat.intCast_mul, Rat.intCast_mul, ← e]
  grind
theorem whole_sm {E : Int} {n : Nat} {f : Nat → Int} {x : Nat → Rat} (h : ∀ c, c < n → Whole E (x c)) : Whole E (sm n fun c => (f c : Rat) * x c) := by
  induction n with
  | zero => exact ⟨0, by rw [sm_zero]; simp [Rat.mul_zero]⟩
  | succ n ih =>
    obtain ⟨k, e⟩ := ih fun c hc => h c (by omega)
    obtain ⟨l, e2⟩ := h n (by omega)
    refine ⟨k + f n * l, ?_⟩
    rw [sm_succ, Rat.intCast_add, Rat.intCast_mul, ← e, ← e2]
    grind
theorem common : ∀ (n b : Nat) (M : Nat → Nat → Int) (v : Nat → Int) (x : Nat → Rat), (∀ r c, r < n → c < n → (M r c).natAbs < 2 ^ b) →
    (∀ z : Nat → Rat, (∀ r, r < n → sm n (fun c => (M r c : Rat) * z c) = 0) → ∀ c, c < n → z c = 0) →
    (∀ r, r < n → sm n (fun c => (M r c : Rat) * x c) = (v r : Rat)) → ∃ E : Int, E ≠ 0 ∧ E.natAbs < 2 ^ (cb b n + 1) ∧ ∀ c, c < n → Whole E (x c)
  | 0, b, M, v, x, _, _, _ => ⟨1, by decide, Nat.one_lt_two_pow (by omega), fun c hc => absurd hc (by omega)⟩
  | n + 1, b, M, v, x, hM, hk, hx => by
    have ⟨q, hq, h0⟩ : ∃ q, q < n + 1 ∧ M q n ≠ 0 := by
      refine Classical.byContradiction fun hn => ?_
      have all0 : ∀ q, q < n + 1 → M q n = 0 := fun q hq => Classical.byContradiction fun h => hn ⟨q, hq, h⟩
      have := hk (fun c => if c = n then 1 else 0) (fun r hr => by
        rw [sm_one (i := n) (by omega) fun c hc hne => by simp [hne, Rat.mul_zero]]
        simp [all0 r hr]) n (by omega)
      simp at this
    let sw : Nat → Nat := fun r => if r = n then q else if r = q then n else r
    have sw_lt : ∀ r, r < n + 1 → sw r < n + 1 := fun r hr => by
      show (if r = n then q else if r = q then n else r) < n + 1
      split
      · exact hq
      · split <;> omega
    have sw_n : sw n = q := if_pos rfl
    have sw_sw : ∀ r, sw (sw r) = r := fun r => by
      show (if (if r = n then q else if r = q then n else r) = n then q else if (if r = n then q else if r = q then n else r) = q then n else (if r = n then q else if r = q then n else r)) = r
      by_cases e1 : r = n
      · subst e1
        by_cases e2 : q = r <;> simp [e2]
      · by_cases e2 : r = q
        · subst e2
          simp [e1]
        · simp [e1, e2]
    have p0 : M (sw n) n ≠ 0 := by rw [sw_n]; exact h0
    generalize hp : M (sw n) n = p at p0
    have p1 : (p : Rat) ≠ 0 := fun z => p0 (by exact_mod_cast z)
    have spl : ∀ (z : Nat → Rat) (r : Nat), sm (n + 1) (fun c => (M r c : Rat) * z c) = sm n (fun c => (M r c : Rat) * z c) + (M r n : Rat) * z n := fun z r => sm_succ n _
    let N : Nat → Nat → Int := fun r c => p * M (sw r) c - M (sw r) n * M (sw n) c
    let w : Nat → Int := fun r => p * v (sw r) - M (sw r) n * v (sw n)
    have eN : ∀ (z : Nat → Rat) (r : Nat), sm n (fun c => (N r c : Rat) * z c) = (p : Rat) * sm n (fun c => (M (sw r) c : Rat) * z c) - (M (sw r) n : Rat) * sm n (fun c => (M (sw n) c : Rat) * z c) := fun z r => by
      rw [← sm_mull, ← sm_mull, ← sm_subf]
      refine sm_congr fun c _ => ?_
      show ((p * M (sw r) c - M (sw r) n * M (sw n) c : Int) : Rat) * z c = _
      rw [Rat.intCast_sub, Rat.intCast_mul, Rat.intCast_mul]
      grind
    have bN : ∀ r c, r < n → c < n → (N r c).natAbs < 2 ^ (b + b + 1) := fun r c hr hc => by
      have a1 : (p * M (sw r) c).natAbs < 2 ^ (b + b) := mul_bitsI (by rw [← hp]; exact hM _ _ (sw_lt n (by omega)) (by omega)) (hM _ _ (sw_lt r (by omega)) (by omega))
      have a2 : (M (sw r) n * M (sw n) c).natAbs < 2 ^ (b + b) := mul_bitsI (hM _ _ (sw_lt r (by omega)) (by omega)) (hM _ _ (sw_lt n (by omega)) (by omega))
      exact sub_bitsI a1 a2
    have kN : ∀ z : Nat → Rat, (∀ r, r < n → sm n (fun c => (N r c : Rat) * z c) = 0) → ∀ c, c < n → z c = 0 := fun z hz c hc => by
      let z' : Nat → Rat := fun c => if c = n then -(sm n (fun c => (M (sw n) c : Rat) * z c)) / p else z c
      have ez : ∀ r, sm n (fun c => (M r c : Rat) * z' c) = sm n (fun c => (M r c : Rat) * z c) := fun r => sm_congr fun c hc => by
        show (M r c : Rat) * (if c = n then _ else z c) = _
        rw [if_neg (by omega)]
      have en : z' n = -(sm n (fun c => (M (sw n) c : Rat) * z c)) / p := if_pos rfl
      have h2 := hk z' (fun r hr => by
        rw [spl, ez, en]
        have hs := sw_lt r hr
        by_cases e : sw r = n
        · have : r = sw n := by rw [← e, sw_sw]
          rw [this, hp]
          grind
        · have h3 := hz (sw r) (by omega)
          rw [eN, sw_sw] at h3
          grind) c (by omega)
      have e : z' c = z c := if_neg (by omega)
      rw [← e]
      exact h2
    have xN : ∀ r, r < n → sm n (fun c => (N r c : Rat) * x c) = (w r : Rat) := fun r hr => by
      have h1 := hx (sw r) (sw_lt r (by omega))
      have h2 := hx (sw n) (sw_lt n (by omega))
      rw [spl] at h1 h2
      rw [hp] at h2
      rw [eN]
      show _ = ((p * v (sw r) - M (sw r) n * v (sw n) : Int) : Rat)
      rw [Rat.intCast_sub, Rat.intCast_mul, Rat.intCast_mul, ← h1, ← h2]
      grind
    obtain ⟨E, E0, E1, E2⟩ := common n (b + b + 1) N w x bN kN xN
    have pb : p.natAbs < 2 ^ b := by rw [← hp]; exact hM _ _ (sw_lt n (by omega)) (by omega)
    refine ⟨E * p, Int.mul_ne_zero E0 p0, ?_, fun c hc => ?_⟩
    · have := mul_bitsI E1 pb
      refine Nat.lt_of_lt_of_le this (Nat.pow_le_pow_right (by decide) ?_)
      show cb (b + b + 1) n + 1 + b ≤ cb (b + b + 1) n + b + 1
      omega
    · by_cases e : c = n
      · subst e
        have h2 := hx (sw c) (sw_lt c (by omega))
        rw [spl, hp] at h2
        obtain ⟨k, hk2⟩ := whole_sm (f := fun j => M (sw c) j) E2
        refine ⟨E * v (sw c) - k, ?_⟩
        rw [Rat.intCast_sub, Rat.intCast_mul, Rat.intCast_mul, ← hk2, ← h2]
        grind
      · exact (E2 c (by omega)).mul
end MR

set_option Elab.async false
set_option linter.all false
set_option maxRecDepth 100000
set_option maxHeartbeats 1000000
/-! PF: the equations of the prices and their solution. -/
namespace MR
open PySem L2
section
variable {m : Mk} {D B : Nat}
theorem ltS_irr (a : Str) : ltS a a = false := by
  cases h : ltS a a with
  | false => rfl
  | true => have := ltS_as a a h; rw [h] at this; exact this
theorem MkOk.inj (h : MkOk m D B) {i j : Nat} (hi : i < m.n) (hj : j < m.n) : m.nm i = m.nm j ↔ i = j := by
  constructor
  · intro e
    rcases Nat.lt_trichotomy i j with z | z | z
    · have := h.rise i j z hj
      rw [e, ltS_irr] at this
      cases this
    · exact z
    · have := h.rise j i z hi
      rw [e, ltS_irr] at this
      cases this
  · intro e
    rw [e]
def eqM (m : Mk) : Tb := fun r c => if c = r then 2 * m.o r else if m.ow c = m.ow r then 0 - 2 * m.cr r c else 0 - m.cr r c
/-- what is taken off the right side -/
def offT (m : Mk) (r j : Nat) : Rat := if j = r then 0 else if m.ow j = m.ow r then m.cr r j * m.c j else 0
def eqVk (m : Mk) (r k : Nat) : Rat := m.b r + m.o r * m.c r - sm k (offT m r)
def eqV (m : Mk) (r : Nat) : Rat := eqVk m r m.n
theorem eqVk_succ {r k : Nat} : eqVk m r (k + 1) = eqVk m r k - offT m r k := by
  unfold eqVk
  rw [sm_succ]
  grind
theorem offT_cn (h : MkOk m D B) {r j : Nat} (hr : r < m.n) (hj : j < m.n) : Cn (D * D) (B * B) (offT m r j) := by
  unfold offT
  split
  · exact .zero
  · split
    · exact (h.bx r j hr hj).mul (h.bc j hj)
    · exact .zero
theorem eqVk_cn (h : MkOk m D B) {r k : Nat} (hr : r < m.n) (hk : k ≤ m.n) : Cn (D * D) (B * D + 7 * (B * B)) (eqVk m r k) := by
  have n6 := h.n6
  have d0 : 0 < D * D := Nat.mul_pos h.D0 h.D0
  have a := (h.bb r hr).wider h.D0
  have b := (h.bo r hr).mul (h.bc r hr)
  have c := Cn.sm (n := k) (f := offT m r) (fun c hc => offT_cn h hr (by omega)) d0
  refine ((a.add b d0).sub c d0).mono ?_
  have : k * (B * B) ≤ 6 * (B * B) := Nat.mul_le_mul (by omega) (Nat.le_refl _)
  omega
theorem dd_lt (h : MkOk m D B) : 0 < D * D ∧ D * D < 2 ^ 2000 := ⟨Nat.mul_pos h.D0 h.D0, mul_bits h.D1 h.D1⟩
theorem eqVk_wd (h : MkOk m D B) {r k : Nat} (hr : r < m.n) (hk : k ≤ m.n) : Wd (eqVk m r k) := by
  refine wd_small (l := 2005) (eqVk_cn h hr hk) (dd_lt h).1 (dd_lt h).2 ?_
  have x := mul_bits h.B1 h.D1
  have y := mul_bits h.B1 h.B1
  have e : (2 : Nat) ^ 2005 = 2 ^ (1000 + 1000) * 32 := by rw [show (2005 : Nat) = 1000 + 1000 + 5 from rfl, Nat.pow_add]
  rw [e]
  generalize (2 : Nat) ^ (1000 + 1000) = z at x y
  omega
theorem mul_wd2 (h : MkOk m D B) {x y : Rat} (hx : Cn D B x) (hy : Cn D B y) : Wd (x * y) := wd_small (hx.mul hy) (dd_lt h).1 (dd_lt h).2 (mul_bits h.B1 h.B1)
theorem cn_two : Cn 1 2 2 := by
  have := Cn.int (n := 2) (B := 2) (by decide)
  simpa using this
theorem two_cn (h : MkOk m D B) {x : Rat} (hx : Cn D B x) : Cn D (2 * B) (2 * x) := by
  have := cn_two.mul hx
  rwa [Nat.one_mul] at this
theorem wd_two : Wd 2 := wd_small (k := 1) (l := 2) cn_two (by decide) (by decide) (by decide)
theorem two_lt {B : Nat} (h : B < 2 ^ 1000) : 2 * B < 2 ^ 1001 := by
  have e : (2 : Nat) ^ 1001 = 2 ^ 1000 * 2 := by rw [show (1001 : Nat) = 1000 + 1 from rfl, Nat.pow_add]
  rw [e]
  omega
theorem two_wd (h : MkOk m D B) {x : Rat} (hx : Cn D B x) : Wd (2 * x) := wd_small (two_cn h hx) h.D0 h.D1 (two_lt h.B1)
theorem wd_zero : Wd 0 := wd_small (D := 1) (B := 0) (k := 1) (l := 1) .zero (by decide) (by decide) (by decide)
theorem rq_two : (.tup [.int 2, .int 1] : MR.D) = rq 2 := rfl
theorem rq_zero : (.tup [.int 0, .int 1] : MR.D) = rq 0 := rfl
theorem equations_eqM (h : MkOk m D B) : RM.m_equations [mkD m] = .ok (.tup [rqm (rowsL m.n (eqM m)), rql (rowL m.n (eqV m))]) := by
  have n6 := h.n6
  have row : ∀ r, r < m.n → ∀ x y : MR.D, forL (bTup 5 (bCons (bName 10) (bCons (bName 11) (bCons (bName 12) (bCons (bName 13) (bCons (bName 14) bNil)))))) RM.b_equations_L1 (prodL m)
      [mkD m, x, y, .str (m.nm r), .str (m.ow r), .non, rq (m.o r), .non, rql [], rq (eqVk m r 0), .non, .non, .non, .non, .non, .non] =
      .nx [mkD m, x, y, .str (m.nm r), .str (m.ow r), .non, rq (m.o r), .non, rql (rowL m.n (eqM m r)), rq (eqV m r), .non, .non, .non, .non, .non, .non] := by
    intro r hr x y
    refine forL_rng (g := bTup 5 (bCons (bName 10) (bCons (bName 11) (bCons (bName 12) (bCons (bName 13) (bCons (bName 14) bNil)))))) (s1 := RM.b_equations_L1) (f := prd m)
      (fun k => [mkD m, x, y, .str (m.nm r), .str (m.ow r), .non, rq (m.o r), .non, rql (rowL k (eqM m r)), rq (eqVk m r k), .non, .non, .non, .non, .non, .non]) m.n fun k hk => ?_
    refine ⟨_, rfl, .inl ?_⟩
    have kl : k < 1000000 := by omega
    have c := cross_eqM h hr hk
    have t1 := times_w wd_two (h.wd (h.bo r hr))
    have t2 := times_w wd_two (h.wd (h.bx r k hr hk))
    have s2 := sub_w wd_zero (two_wd h (h.bx r k hr hk))
    have s3 := sub_w wd_zero (h.wd (h.bx r k hr hk))
    have t4 := times_w (h.wd (h.bx r k hr hk)) (h.wd (h.bc k hk))
    have s4 := sub_w (eqVk_wd h hr (k := k) (by omega)) (mul_wd2 h (h.bx r k hr hk) (h.bc k hk))
    have i := h.inj hk hr
    unfold RM.b_equations_L1
    rw [eqVk_succ, ← rowL_snoc]
    unfold offT
    by_cases e : k = r
    · subst e
      have e3 : eqM m k k = 2 * m.o k := if_pos rfl
      have e4 : eqVk m k k - 0 = eqVk m k k := by grind
      simp [prd, c, rq_two, t1, kl, rowL_len, rql_snoc, e3, e4]
    · have e2 : ¬ m.nm k = m.nm r := fun z => e (i.mp z)
      by_cases o : m.ow k = m.ow r
      · have e3 : eqM m r k = 0 - 2 * m.cr r k := by unfold eqM; rw [if_neg e, if_pos o]
        simp [prd, c, e, e2, o, rq_two, rq_zero, t2, s2, t4, s4, kl, rowL_len, rql_snoc, e3]
      · have e3 : eqM m r k = 0 - m.cr r k := by unfold eqM; rw [if_neg e, if_neg o]
        have e4 : eqVk m r k - 0 = eqVk m r k := by grind
        simp [prd, c, e, e2, o, rq_two, rq_zero, s3, kl, rowL_len, rql_snoc, e3, e4]
  have go := forL_rng (g := bTup 5 (bCons (bName 3) (bCons (bName 4) (bCons (bName 5) (bCons (bName 6) (bCons (bName 7) bNil)))))) (s1 := RM.b_equations_L0) (f := prd m)
    (fun k => [mkD m, rqm ((List.range k).map fun r => rowL m.n (eqM m r)), rql (rowL k (eqV m)), .non, .non, .non, .non, .non, .non, .non, .non, .non, .non, .non, .non, .non]) m.n fun k hk => by
      refine ⟨_, rfl, .inl ?_⟩
      have kl : k < 1000000 := by omega
      have rr := row k hk (rqm ((List.range k).map fun r => rowL m.n (eqM m r))) (rql (rowL k (eqV m)))
      have t := times_w (h.wd (h.bo k hk)) (h.wd (h.bc k hk))
      have a := add_w (h.wd (h.bb k hk)) (mul_wd2 h (h.bo k hk) (h.bc k hk))
      have e0 : eqVk m k 0 = m.b k + m.o k * m.c k := by unfold eqVk; rw [sm_zero]; grind
      rw [e0] at rr
      unfold RM.b_equations_L0
      have e5 : (List.range (k + 1)).map (fun r => rowL m.n (eqM m r)) = (List.range k).map (fun r => rowL m.n (eqM m r)) ++ [rowL m.n (eqM m k)] := by rw [List.range_succ, List.map_append]; rfl
      rw [e5, ← rqm_snoc, ← rowL_snoc]
      simp [prd, t, a, rql_nil, rr, kl, rowL_len, rql_snoc]
  unfold RM.m_equations
  rw [mDef_eq]
  unfold RM.b_equations
  simp only [List.range_zero, List.map_nil, rowL_zero, ← rqm_nil, ← rql_nil] at go
  simp
  rw [show prodL m = (List.range m.n).map (prd m) from rfl, go]
  simp
  rfl
end
end MR

set_option Elab.async false
set_option linter.all false
set_option maxRecDepth 100000
set_option maxHeartbeats 1000000
/-! PH: the equilibrium of a market. -/
namespace MR
open PySem L2
/-- what makes the equations dominant, and small -/
structure EqOk (m : Mk) (D B M : Nat) : Prop where
  pos : ∀ i j, i < m.n → j < m.n → 0 ≤ m.cr i j
  sym : ∀ i j, i < m.n → j < m.n → m.cr i j = m.cr j i
  dom : ∀ i, i < m.n → sm m.n (m.cr i) < m.o i
  mo : ∀ i, i < m.n → Cn D M (m.o i)
  mx : ∀ i j, i < m.n → j < m.n → Cn D M (m.cr i j)
  s1 : 2 * M * D < 2 ^ 14
  s2 : D * D < 2 ^ 50
  s3 : B * D + 7 * (B * B) < 2 ^ 50
section
variable {m : Mk} {D B M : Nat}
theorem eqM_cn (h : MkOk m D B) (q : EqOk m D B M) {r c : Nat} (hr : r < m.n) (hc : c < m.n) : Cn (D * D) (2 * M * D) (eqM m r c) := by
  have z : Cn D 0 0 := .zero
  have key : Cn D (2 * M) (eqM m r c) := by
    have t : ∀ x, Cn D M x → Cn D (2 * M) (2 * x) := fun x hx => by
      have := cn_two.mul hx
      rwa [Nat.one_mul] at this
    unfold eqM
    split
    · exact t _ (q.mo r hr)
    · split
      · exact (z.sub (t _ (q.mx r c hr hc)) h.D0).mono (by omega)
      · exact (z.sub (q.mx r c hr hc) h.D0).mono (by omega)
  exact key.wider h.D0
theorem ra_of_nonneg {x : Rat} (h : 0 ≤ x) : ra x = x := by
  unfold ra
  split
  · grind
  · rfl
theorem cr_sum_pos (q : EqOk m D B M) {r k : Nat} (hr : r < m.n) (hk : k ≤ m.n) : 0 ≤ sm k (m.cr r) := sm_nonneg fun c hc => q.pos r c hr (by omega)
theorem dom_eqM (q : EqOk m D B M) : Dom m.n (eqM m) := fun r hr => by
  have d := q.dom r hr
  have p := cr_sum_pos q hr (Nat.le_refl _)
  have e1 : ra (eqM m r r) = 2 * m.o r := by
    have : eqM m r r = 2 * m.o r := if_pos rfl
    rw [this]
    exact ra_of_nonneg (by grind)
  rw [e1]
  have e2 : offs m.n (eqM m r) r ≤ sm m.n (fun c => 2 * m.cr r c) := sm_le fun c hc => by
    have pc := q.pos r c hr hc
    split
    · grind
    · rename_i ne
      unfold eqM
      rw [if_neg ne]
      split
      · have : (0 : Rat) - 2 * m.cr r c = -(2 * m.cr r c) := by grind
        rw [this, ra_neg, ra_of_nonneg (by grind)]
        grind
      · have : (0 : Rat) - m.cr r c = -(m.cr r c) := by grind
        rw [this, ra_neg, ra_of_nonneg pc]
        grind
  rw [sm_mull] at e2
  grind
theorem Cn.cdl {D B b : Nat} {x : Rat} (h : Cn D B x) (hb : B < 2 ^ b) : Cd D b x := h.cd hb
/-- over the common denominator all are whole -/
theorem Cn.num {D B : Nat} {x : Rat} (h : Cn D B x) (D0 : 0 < D) : ∃ k : Int, (D : Rat) * x = (k : Rat) ∧ k.natAbs ≤ B := by
  obtain ⟨k, rfl, hk⟩ := h
  refine ⟨k, ?_, hk⟩
  have d0 : ((D : Int) : Rat) ≠ 0 := by
    intro z
    have : (D : Int) = 0 := by exact_mod_cast z
    omega
  rw [Rat.divInt_eq_div]
  have e : ((D : Int) : Rat) = (D : Rat) := by norm_cast
  rw [← e]
  grind
theorem Cn.of_whole {E : Int} {x : Rat} {b : Nat} (h : Whole E x) (E0 : E ≠ 0) (hx : x.num.natAbs < 2 ^ b) : Cn E.natAbs (2 ^ b * E.natAbs) x := by
  obtain ⟨k, e⟩ := h
  have r0 : (E : Rat) ≠ 0 := fun z => E0 (by exact_mod_cast z)
  have ex : x = Rat.divInt k E := by
    rw [Rat.divInt_eq_div, ← e]
    grind
  have cr : x.num * E = k * x.den := cross ex E0
  have kb : k.natAbs ≤ 2 ^ b * E.natAbs := by
    have h1 : (k * (x.den : Int)).natAbs = x.num.natAbs * E.natAbs := by rw [← cr, Int.natAbs_mul]
    rw [Int.natAbs_mul] at h1
    have dp := den_pos x
    have h2 : k.natAbs * 1 ≤ k.natAbs * ((x.den : Int)).natAbs := Nat.mul_le_mul (Nat.le_refl _) (by omega)
    have h3 : x.num.natAbs * E.natAbs ≤ 2 ^ b * E.natAbs := Nat.mul_le_mul (by omega) (Nat.le_refl _)
    omega
  rcases Int.lt_trichotomy E 0 with z | z | z
  · refine ⟨-k, ?_, by omega⟩
    have : ((E.natAbs : Nat) : Int) = -E := by omega
    rw [this, Rat.neg_divInt_neg]
    exact ex
  · exact absurd z E0
  · refine ⟨k, ?_, kb⟩
    have : ((E.natAbs : Nat) : Int) = E := by omega
    rw [this]
    exact ex
theorem bb6 : bb 50 6 = 3263 := by decide
theorem cb6 : ∀ n, n ≤ 6 → cb 14 n + 1 ≤ 940 := by decide
theorem equilibrium_eqM (h : MkOk m D B) (q : EqOk m D B M) : ∃ x : Nat → Rat, RM.m_equilibrium [mkD m] = .ok (rql (rowL m.n x)) ∧ (∀ r, r < m.n → sm m.n (fun c => eqM m r c * x c) = eqV m r) ∧ ∃ E C, PrOk m x E C ∧ E < 2 ^ 940 ∧ C < 2 ^ 5000 := by
  have n6 := h.n6
  have d0 : 0 < D * D := Nat.mul_pos h.D0 h.D0
  have hR : ∀ r, r < m.n → Rw 50 (m.n + 1) (aug m.n (eqM m) (eqV m) r) := fun r hr => by
    refine ⟨D * D, d0, q.s2, fun c hc => ?_⟩
    unfold aug
    split
    · exact (eqM_cn h q hr (by assumption)).cd (Nat.lt_trans q.s1 (by decide))
    · exact (eqVk_cn h hr (Nat.le_refl _)).cd q.s3
  have b6 : bb 50 m.n ≤ 3263 := by rw [← bb6]; exact bb_le n6
  have ker : ∀ z : Nat → Rat, (∀ r, r < m.n → sm m.n (fun c => eqM m r c * z c) = 0) → ∀ c, c < m.n → z c = 0 := fun z hz => (dom_eqM q).kernel hz
  rcases solve_eq (b := 50) (n := m.n) (M := eqM m) (v := eqV m) hR (by omega) (by omega) with ⟨x, e, h1, h2, h3⟩ | ⟨e, z, ⟨c, hc, hz⟩, h2⟩
  · refine ⟨x, ?_, h1, ?_⟩
    · have eq := equations_eqM h
      unfold RM.m_equilibrium
      rw [mDef_eq]
      unfold RM.b_equilibrium
      simp [eq, e]
    · have N : ∀ r c, ∃ k : Int, r < m.n → c < m.n → (((D * D : Nat) : Rat) * eqM m r c = (k : Rat) ∧ k.natAbs ≤ 2 * M * D) := fun r c => by
        by_cases hr : r < m.n
        · by_cases hc : c < m.n
          · obtain ⟨k, a, b⟩ := (eqM_cn h q hr hc).num d0
            exact ⟨k, fun _ _ => ⟨a, b⟩⟩
          · exact ⟨0, fun _ z => absurd z hc⟩
        · exact ⟨0, fun z => absurd z hr⟩
      have V : ∀ r, ∃ k : Int, r < m.n → ((D * D : Nat) : Rat) * eqV m r = (k : Rat) := fun r => by
        by_cases hr : r < m.n
        · obtain ⟨k, a, _⟩ := (eqVk_cn h hr (Nat.le_refl _)).num d0
          exact ⟨k, fun _ => a⟩
        · exact ⟨0, fun z => absurd z hr⟩
      let Ni : Nat → Nat → Int := fun r c => (N r c).choose
      let Vi : Nat → Int := fun r => (V r).choose
      have hN : ∀ r c, r < m.n → c < m.n → (((D * D : Nat) : Rat) * eqM m r c = (Ni r c : Rat) ∧ (Ni r c).natAbs ≤ 2 * M * D) := fun r c hr hc => (N r c).choose_spec hr hc
      have hV : ∀ r, r < m.n → ((D * D : Nat) : Rat) * eqV m r = (Vi r : Rat) := fun r hr => (V r).choose_spec hr
      have dr : ((D * D : Nat) : Rat) ≠ 0 := by
        intro z
        have : D * D = 0 := by exact_mod_cast z
        omega
      have sc : ∀ (z : Nat → Rat) r, r < m.n → sm m.n (fun c => (Ni r c : Rat) * z c) = ((D * D : Nat) : Rat) * sm m.n (fun c => eqM m r c * z c) := fun z r hr => by
        rw [← sm_mull]
        refine sm_congr fun c hc => ?_
        rw [← (hN r c hr hc).1, Rat.mul_assoc]
      obtain ⟨E, E0, E1, E2⟩ := common m.n 14 Ni Vi x (fun r c hr hc => Nat.lt_of_le_of_lt (hN r c hr hc).2 q.s1)
        (fun z hz => ker z fun r hr => by
          have := hz r hr
          rw [sc z r hr] at this
          rcases Rat.mul_eq_zero.mp this with a | a
          · exact absurd a dr
          · exact a)
        (fun r hr => by rw [sc x r hr, h1 r hr, hV r hr])
      have El : E.natAbs < 2 ^ 940 := Nat.lt_of_lt_of_le E1 (Nat.pow_le_pow_right (by decide) (cb6 m.n n6))
      have Cl : 2 ^ bb 50 m.n * E.natAbs < 2 ^ 5000 := by
        have a : 2 ^ bb 50 m.n < 2 ^ 3264 := Nat.pow_lt_pow_right (by decide) (by omega)
        exact le_pow (mul_bits a El) (by decide)
      refine ⟨E.natAbs, 2 ^ bb 50 m.n * E.natAbs, ⟨by omega, le_pow El, le_pow Cl, fun i hi => Cn.of_whole (E2 i hi) E0 (h3 i hi).n⟩, El, Cl⟩
  · exact absurd (ker z h2 c hc) hz
end
end MR

set_option Elab.async false
set_option linter.all false
set_option maxRecDepth 100000
set_option maxHeartbeats 1000000
/-! PI: nobody gains: profits are concave in an owner's own prices. -/
namespace MR
section
variable {m : Mk} {D B M : Nat}
theorem sm_ge_one {n k : Nat} {f : Nat → Rat} (h : ∀ c, c < n → 0 ≤ f c) (hk : k < n) : f k ≤ sm n f := by
  rw [sm_split hk]
  have := sm_nonneg (n := n) (f := fun c => if c = k then 0 else f c) fun c hc => by
    split
    · exact Rat.le_refl
    · exact h c hc
  grind
def ind (m : Mk) (a : PySem.Str) (i : Nat) : Rat := if m.ow i = a then 1 else 0
/-- what the demand changes by -/
def dh (m : Mk) (h : Nat → Rat) (i : Nat) : Rat := sm m.n (fun j => m.cr i j * h j) - m.o i * h i
theorem dem_diff {p x : Nat → Rat} {i : Nat} : dem m p i = dem m x i + dh m (fun j => p j - x j) i := by
  unfold dem dh
  have : sm m.n (fun j => m.cr i j * (p j - x j)) = sm m.n (fun j => m.cr i j * p j) - sm m.n (fun j => m.cr i j * x j) := by
    rw [← sm_subf]
    exact sm_congr fun c _ => by grind
  rw [this]
  grind
theorem pro_ind {a : PySem.Str} {p : Nat → Rat} : pro m a p = sm m.n fun i => ind m a i * ((p i - m.c i) * dem m p i) := by
  unfold pro ind
  exact sm_congr fun c _ => by split <;> grind
/-- the condition for a best price of product j of owner a -/
theorem first_order (h : MkOk m D B) {a : PySem.Str} {x : Nat → Rat} {j : Nat} (hj : j < m.n) (ha : m.ow j = a) (hx : sm m.n (fun c => eqM m j c * x c) = eqV m j) :
    dem m x j - m.o j * (x j - m.c j) + sm m.n (fun i => m.cr j i * (ind m a i * (x i - m.c i))) = 0 := by
  have e1 : sm m.n (fun c => eqM m j c * x c) = 2 * m.o j * x j - (sm m.n (fun c => m.cr j c * x c) + sm m.n (fun c => m.cr j c * (ind m a c * x c))) := by
    rw [← sm_addf]
    have s := sm_split (f := fun c => eqM m j c * x c) hj
    rw [s]
    have e : eqM m j j = 2 * m.o j := if_pos rfl
    have t : sm m.n (fun c => if c = j then 0 else eqM m j c * x c) = sm m.n (fun c => (-1) * (m.cr j c * x c + m.cr j c * (ind m a c * x c))) := sm_congr fun c hc => by
      by_cases z : c = j
      · subst z
        rw [if_pos rfl, h.self c hc]
        grind
      · rw [if_neg z]
        unfold eqM ind
        rw [if_neg z, ha]
        split <;> grind
    rw [t, sm_mull, e]
    grind
  have e2 : eqV m j = m.b j + m.o j * m.c j - sm m.n (fun c => m.cr j c * (ind m a c * m.c c)) := by
    unfold eqV eqVk
    have t : sm m.n (offT m j) = sm m.n (fun c => m.cr j c * (ind m a c * m.c c)) := sm_congr fun c hc => by
      unfold offT ind
      by_cases z : c = j
      · subst z
        rw [if_pos rfl, h.self c hc]
        grind
      · rw [if_neg z, ha]
        split <;> grind
    rw [t]
  have e3 : sm m.n (fun i => m.cr j i * (ind m a i * (x i - m.c i))) = sm m.n (fun c => m.cr j c * (ind m a c * x c)) - sm m.n (fun c => m.cr j c * (ind m a c * m.c c)) := by
    rw [← sm_subf]
    exact sm_congr fun c _ => by grind
  rw [e3]
  rw [e1, e2] at hx
  unfold dem
  grind
/-- profits change by the second order alone -/
theorem pro_diff (h : MkOk m D B) (q : EqOk m D B M) {a : PySem.Str} {x p : Nat → Rat} (hx : ∀ r, r < m.n → sm m.n (fun c => eqM m r c * x c) = eqV m r) (hp : ∀ c, c < m.n → m.ow c ≠ a → p c = x c) :
    pro m a p = pro m a x + sm m.n (fun i => (p i - x i) * dh m (fun j => p j - x j) i) := by
  generalize hg : (fun j => p j - x j) = g
  have gx : ∀ j, p j - x j = g j := fun j => by rw [← hg]
  have ig : ∀ j, j < m.n → ind m a j * g j = g j := fun j hj => by
    unfold ind
    split
    · grind
    · rename_i ne
      rw [← gx, hp j hj ne]
      grind
  have e1 : pro m a p = pro m a x + (sm m.n (fun i => g i * dem m x i) + sm m.n (fun i => ind m a i * (x i - m.c i) * dh m g i)) + sm m.n (fun i => g i * dh m g i) := by
    rw [pro_ind, pro_ind, ← sm_addf, ← sm_addf, ← sm_addf]
    refine sm_congr fun i hi => ?_
    have d := dem_diff (m := m) (p := p) (x := x) (i := i)
    rw [hg] at d
    have gi := gx i
    have hi2 := ig i hi
    have pi : p i = x i + g i := by grind
    rw [d, pi]
    generalize dem m x i = u at *
    generalize dh m g i = w at *
    have : ind m a i * (g i * (u + w)) = g i * (u + w) := by rw [← Rat.mul_assoc, hi2]
    grind
  have e2 : sm m.n (fun i => ind m a i * (x i - m.c i) * dh m g i) = sm m.n (fun j => g j * (sm m.n (fun i => m.cr j i * (ind m a i * (x i - m.c i))) - m.o j * (x j - m.c j))) := by
    have a1 : sm m.n (fun i => ind m a i * (x i - m.c i) * dh m g i) = sm m.n (fun i => sm m.n (fun j => ind m a i * (x i - m.c i) * (m.cr i j * g j))) - sm m.n (fun i => g i * (m.o i * (x i - m.c i))) := by
      rw [← sm_subf]
      refine sm_congr fun i hi => ?_
      unfold dh
      rw [sm_mull]
      have hi2 := ig i hi
      generalize sm m.n (fun j => m.cr i j * g j) = u
      have : ind m a i * (x i - m.c i) * (m.o i * g i) = g i * (m.o i * (x i - m.c i)) := by
        have : ind m a i * (x i - m.c i) * (m.o i * g i) = (ind m a i * g i) * (m.o i * (x i - m.c i)) := by grind
        rw [this, hi2]
      grind
    rw [a1, sm_swap]
    have a2 : sm m.n (fun j => sm m.n (fun i => ind m a i * (x i - m.c i) * (m.cr i j * g j))) = sm m.n (fun j => g j * sm m.n (fun i => m.cr j i * (ind m a i * (x i - m.c i)))) := sm_congr fun j hj => by
      rw [← sm_mull]
      refine sm_congr fun i hi => ?_
      rw [q.sym i j hi hj]
      grind
    rw [a2, ← sm_subf]
    exact sm_congr fun j _ => by grind
  have e3 : sm m.n (fun i => g i * dem m x i) + sm m.n (fun i => ind m a i * (x i - m.c i) * dh m g i) = 0 := by
    rw [e2, ← sm_addf]
    refine sm_none fun j hj => ?_
    by_cases o : m.ow j = a
    · have := first_order h hj o (hx j hj)
      grind
    · have : g j = 0 := by rw [← gx, hp j hj o]; grind
      rw [this]
      grind
  rw [e1, e3]
  have e4 : sm m.n (fun i => (p i - x i) * dh m g i) = sm m.n (fun i => g i * dh m g i) := sm_congr fun i _ => by rw [gx]
  rw [e4]
  grind
theorem sq_nonneg (x : Rat) : 0 ≤ x * x := by
  rcases Rat.le_total (a := 0) (b := x) with h | h
  · exact Rat.mul_nonneg h h
  · have := Rat.mul_nonneg (show 0 ≤ -x by grind) (show 0 ≤ -x by grind)
    grind
/-- the second order is below 0 -/
theorem second_order (q : EqOk m D B M) (g : Nat → Rat) : sm m.n (fun i => g i * dh m g i) ≤ - sm m.n (fun i => (m.o i - sm m.n (m.cr i)) * (g i * g i)) := by
  have a1 : sm m.n (fun i => g i * dh m g i) = sm m.n (fun i => sm m.n (fun j => m.cr i j * (g i * g j))) - sm m.n (fun i => m.o i * (g i * g i)) := by
    rw [← sm_subf]
    refine sm_congr fun i _ => ?_
    have : sm m.n (fun j => m.cr i j * (g i * g j)) = g i * sm m.n (fun j => m.cr i j * g j) := by
      rw [← sm_mull]
      exact sm_congr fun j _ => by grind
    rw [this]
    unfold dh
    grind
  have a2 : sm m.n (fun i => sm m.n (fun j => m.cr i j * (g i * g j))) ≤ sm m.n (fun i => sm m.n (fun j => m.cr i j * ((g i * g i + g j * g j) / 2))) := sm_le fun i hi => sm_le fun j hj => by
    have s := sq_nonneg (g i - g j)
    have c := q.pos i j hi hj
    have : 0 ≤ m.cr i j * ((g i * g i + g j * g j) / 2 - g i * g j) := Rat.mul_nonneg c (by grind)
    grind
  have a3 : sm m.n (fun i => sm m.n (fun j => m.cr i j * ((g i * g i + g j * g j) / 2))) = sm m.n (fun i => sm m.n (m.cr i) * (g i * g i)) := by
    have b1 : sm m.n (fun i => sm m.n (fun j => m.cr i j * ((g i * g i + g j * g j) / 2))) = sm m.n (fun i => sm m.n (fun j => m.cr i j * (g i * g i) / 2)) + sm m.n (fun i => sm m.n (fun j => m.cr i j * (g j * g j) / 2)) := by
      rw [← sm_addf]
      refine sm_congr fun i _ => ?_
      rw [← sm_addf]
      exact sm_congr fun j _ => by grind
    have b2 : sm m.n (fun i => sm m.n (fun j => m.cr i j * (g j * g j) / 2)) = sm m.n (fun i => sm m.n (fun j => m.cr i j * (g i * g i) / 2)) := by
      rw [sm_swap]
      refine sm_congr fun i hi => sm_congr fun j hj => ?_
      rw [q.sym i j hi hj]
    rw [b1, b2, ← sm_addf]
    refine sm_congr fun i _ => ?_
    rw [← sm_addf]
    have : sm m.n (fun j => m.cr i j * (g i * g i) / 2 + m.cr i j * (g i * g i) / 2) = sm m.n (fun j => (g i * g i) * m.cr i j) := sm_congr fun j _ => by grind
    rw [this, sm_mull]
    grind
  have a4 : sm m.n (fun i => (m.o i - sm m.n (m.cr i)) * (g i * g i)) = sm m.n (fun i => m.o i * (g i * g i)) - sm m.n (fun i => sm m.n (m.cr i) * (g i * g i)) := by
    rw [← sm_subf]
    exact sm_congr fun i _ => by grind
  rw [a1, a4]
  grind
/-- no owner has more profit by other prices of its own, and just as much only by the same ones -/
theorem no_gain (h : MkOk m D B) (q : EqOk m D B M) {a : PySem.Str} {x p : Nat → Rat} (hx : ∀ r, r < m.n → sm m.n (fun c => eqM m r c * x c) = eqV m r) (hp : ∀ c, c < m.n → m.ow c ≠ a → p c = x c) :
    pro m a p ≤ pro m a x ∧ (pro m a p = pro m a x ↔ ∀ c, c < m.n → p c = x c) := by
  have d := pro_diff h q hx hp
  have s := second_order q (fun j => p j - x j)
  have nn : ∀ i, i < m.n → 0 ≤ (m.o i - sm m.n (m.cr i)) * ((p i - x i) * (p i - x i)) := fun i hi => Rat.mul_nonneg (by have := q.dom i hi; grind) (sq_nonneg _)
  have s0 := sm_nonneg nn
  refine ⟨by grind, fun e c hc => ?_, fun e => ?_⟩
  · have g1 := sm_ge_one nn hc
    have n1 := nn c hc
    have z : (m.o c - sm m.n (m.cr c)) * ((p c - x c) * (p c - x c)) = 0 := by grind
    have dm := q.dom c hc
    rcases Rat.mul_eq_zero.mp z with z | z
    · grind
    · rcases Rat.mul_eq_zero.mp z with z | z <;> grind
  · have : sm m.n (fun i => (p i - x i) * dh m (fun j => p j - x j) i) = 0 := sm_none fun c hc => by rw [e c hc]; grind
    rw [d, this]
    grind
end
end MR

set_option Elab.async false
set_option linter.all false
set_option maxRecDepth 100000
set_option maxHeartbeats 1000000
/-! PJ: a market is made: names, products, rivalries. -/
namespace MR
open PySem L2
abbrev abc : Str := Str.ofString "abcdefghijklmnopqrstuvwxyz"
def isNm (s : Str) : Bool := (s.cps.toList.all fun c => decide (c ∈ abc.cps.toList)) && (decide (1 ≤ (s.length : Int)) && decide ((s.length : Int) ≤ 12))
theorem name_loop {x : D} : ∀ l : List Nat, (∀ c ∈ l, c ∈ abc.cps.toList) ∧ forL (bName 1) RM.b_is_name_L0 (l.map fun c => D.str ⟨#[c]⟩) [x, .non] = .nx [x, .non] ∨ (¬ ∀ c ∈ l, c ∈ abc.cps.toList) ∧ ∃ ρ, forL (bName 1) RM.b_is_name_L0 (l.map fun c => D.str ⟨#[c]⟩) [x, .non] = .ret (.bl false) ρ
  | [] => .inl ⟨fun _ h => by simp at h, rfl⟩
  | c :: l => by
    have e : fNotIn (.str ⟨#[c]⟩) (.str abc) = some (!decide (c ∈ abc.cps.toList)) := rfl
    rw [List.map_cons, forL_cons]
    by_cases q : c ∈ abc.cps.toList
    · have st : RM.b_is_name_L0 [x, .str ⟨#[c]⟩] = .nx [x, .non] := by
        unfold RM.b_is_name_L0
        simp only [mIf_eq, mCmpT_eq, mVar_eq, mC_eq, op1_ok, op2_ok, List.getD_cons_succ, List.getD_cons_zero, e]
        simp [q]
      rcases name_loop (x := x) l with ⟨h1, h2⟩ | ⟨h1, ρ, h2⟩
      · refine .inl ⟨fun d hd => ?_, ?_⟩
        · rcases List.mem_cons.mp hd with z | z
          · rw [z]; exact q
          · exact h1 d z
        · simp [st, h2]
      · refine .inr ⟨fun h => h1 fun d hd => h d (List.mem_cons_of_mem _ hd), ρ, ?_⟩
        simp [st, h2]
    · have st : RM.b_is_name_L0 [x, .str ⟨#[c]⟩] = .ret (.bl false) [x, .str ⟨#[c]⟩] := by
        unfold RM.b_is_name_L0
        simp only [mIf_eq, mCmpT_eq, mVar_eq, mC_eq, op1_ok, op2_ok, List.getD_cons_succ, List.getD_cons_zero, e]
        simp [q]
      exact .inr ⟨fun h => q (h c List.mem_cons_self), _, by simp [st]; rfl⟩
theorem is_name_eq (s : Str) (hs : s.length ≤ sizeLine) : RM.m_is_name [.str s] = .ok (.bl (isNm s)) := by
  unfold RM.m_is_name
  rw [mDef_eq]
  unfold RM.b_is_name
  rcases name_loop (x := .str s) s.cps.toList with ⟨h1, h2⟩ | ⟨h1, ρ, h2⟩
  · have a : (s.cps.toList.all fun c => decide (c ∈ abc.cps.toList)) = true := by
      rw [List.all_eq_true]
      exact fun c hc => decide_eq_true (h1 c hc)
    unfold isNm
    rw [a]
    simp [signsOf, h2, hs, ch3_ite]
    by_cases l1 : (1 : Int) ≤ s.length
    · simp [l1]
    · simp [l1]
  · have a : (s.cps.toList.all fun c => decide (c ∈ abc.cps.toList)) = false := by
      rw [List.all_eq_false]
      exact Classical.byContradiction fun z => h1 fun c hc => Classical.byContradiction fun y => z ⟨c, hc, by simpa using y⟩
    unfold isNm
    rw [a]
    simp [signsOf, h2]
structure Prd where
  nm : Str
  ow : Str
  b : Rat
  o : Rat
  c : Rat
def prdD (p : Prd) : D := .tup [.str p.nm, .str p.ow, rq p.b, rq p.o, rq p.c]
/-- a product whose parts are no greater than what comes up -/
structure PrdW (p : Prd) : Prop where
  ln : p.nm.length ≤ sizeLine
  lo : p.ow.length ≤ sizeLine
  wb : Wd p.b
  wo : Wd p.o
  wc : Wd p.c
def chkP (seen : List Str) : List Prd → Option Err
  | [] => none
  | p :: ps => if isNm p.nm = true ∧ isNm p.ow = true then (if p.nm ∈ seen then some .dup else if 0 < p.b ∧ 0 < p.o ∧ ¬ p.c < 0 then chkP (seen ++ [p.nm]) ps else some .market) else some .market
abbrev gPrd : MB := bTup 5 (bCons (bName 3) (bCons (bName 4) (bCons (bName 5) (bCons (bName 6) (bCons (bName 7) bNil)))))
theorem chk_loop {x y : D} : ∀ (ps : List Prd) (seen : List Str), (∀ p ∈ ps, PrdW p) → seen.length + ps.length < 1000 →
    ∃ ρ, forL gPrd RM.bB_Market__check_products_0_L0 (ps.map prdD) [x, y, .lst (seen.map .str), .non, .non, .non, .non, .non] = (match chkP seen ps with | none => .nx (x :: ρ) | some e => .exc e (x :: ρ))
  | [], seen, _, _ => ⟨_, rfl⟩
  | p :: ps, seen, hp, hl => by
    have w := hp p List.mem_cons_self
    simp only [List.length_cons] at hl
    have n1 := is_name_eq p.nm w.ln
    have n2 := is_name_eq p.ow w.lo
    have l1 := less_w wd_zero w.wb
    have l2 := less_w wd_zero w.wo
    have l3 := less_w w.wc wd_zero
    have sl : seen.length < 1000000 := by omega
    have ap : D.lst (seen.map .str ++ [.str p.nm]) = .lst ((seen ++ [p.nm]).map .str) := by simp
    obtain ⟨ρ, ih⟩ := chk_loop (x := x) (y := y) ps (seen ++ [p.nm]) (fun q hq => hp q (List.mem_cons_of_mem _ hq)) (by simp; omega)
    have t := fun a => pInL_ok (i := 2) (r := .all .d) (b := mVar 3) (ρ := [x, y, .lst (seen.map .str), .str p.nm, a, rq p.b, rq p.o, rq p.c]) (x := .str p.nm) (ρ1 := [x, y, .lst (seen.map .str), .str p.nm, a, rq p.b, rq p.o, rq p.c]) rfl rfl fIn_strs
    rw [List.map_cons, forL_cons]
    unfold chkP
    by_cases q1 : isNm p.nm = true
    · by_cases q2 : isNm p.ow = true
      · by_cases q3 : p.nm ∈ seen
        · refine ⟨[y, .lst (seen.map .str), .str p.nm, .non, rq p.b, rq p.o, rq p.c], ?_⟩
          unfold RM.bB_Market__check_products_0_L0
          simp [prdD, n1, n2, q1, q2, q3, t, mRaise]
        · by_cases q4 : 0 < p.b
          · by_cases q5 : 0 < p.o
            · by_cases q6 : p.c < 0
              · refine ⟨[y, .lst (seen.map .str), .str p.nm, .non, rq p.b, rq p.o, rq p.c], ?_⟩
                unfold RM.bB_Market__check_products_0_L0
                simp [prdD, n1, n2, q1, q2, q3, q4, q5, q6, t, rq_zero, l1, l2, l3]
              · refine ⟨ρ, ?_⟩
                have st : RM.bB_Market__check_products_0_L0 [x, y, .lst (seen.map .str), .str p.nm, .str p.ow, rq p.b, rq p.o, rq p.c] = .nx [x, y, .lst ((seen ++ [p.nm]).map .str), .non, .non, .non, .non, .non] := by
                  unfold RM.bB_Market__check_products_0_L0
                  simp [n1, n2, q1, q2, q3, q4, q5, q6, t, rq_zero, l1, l2, l3, sl, ap]
                show Out.loop (RM.bB_Market__check_products_0_L0 [x, y, .lst (seen.map .str), .str p.nm, .str p.ow, rq p.b, rq p.o, rq p.c]) _ = _
                rw [st, loop_nx, ih]
                simp [q1, q2, q3, q4, q5, q6]
            · refine ⟨[y, .lst (seen.map .str), .str p.nm, .non, rq p.b, rq p.o, rq p.c], ?_⟩
              unfold RM.bB_Market__check_products_0_L0
              simp [prdD, n1, n2, q1, q2, q3, q4, q5, t, rq_zero, l1, l2]
          · refine ⟨[y, .lst (seen.map .str), .str p.nm, .non, rq p.b, rq p.o, rq p.c], ?_⟩
            unfold RM.bB_Market__check_products_0_L0
            simp [prdD, n1, n2, q1, q2, q3, q4, t, rq_zero, l1]
      · refine ⟨[y, .lst (seen.map .str), .str p.nm, .str p.ow, rq p.b, rq p.o, rq p.c], ?_⟩
        unfold RM.bB_Market__check_products_0_L0
        simp [prdD, n1, n2, q1, q2]
    · refine ⟨[y, .lst (seen.map .str), .str p.nm, .str p.ow, rq p.b, rq p.o, rq p.c], ?_⟩
      unfold RM.bB_Market__check_products_0_L0
      simp [prdD, n1, q1]
theorem check_eq {x : D} (ps : List Prd) (hp : ∀ p ∈ ps, PrdW p) (hl : ps.length < 900) :
    RM.mB_Market__check_products_0 [x, .lst (ps.map prdD)] = (match (if 1 ≤ ps.length ∧ ps.length ≤ 6 then chkP [] ps else some .market) with | none => .ok .non x | some e => .exc e x) := by
  obtain ⟨ρ, lp⟩ := chk_loop (x := x) (y := .lst (ps.map prdD)) ps [] hp (by simp; omega)
  unfold RM.mB_Market__check_products_0
  by_cases q1 : 1 ≤ ps.length
  · by_cases q2 : ps.length ≤ 6
    · rw [if_pos ⟨q1, q2⟩]
      have st : RM.bB_Market__check_products_0 [x, .lst (ps.map prdD), .non, .non, .non, .non, .non, .non] = (match chkP [] ps with | none => .nx (x :: ρ) | some e => .exc e (x :: ρ)) := by
        rw [← lp]
        unfold RM.bB_Market__check_products_0
        have i1 : (1 : Int) ≤ ps.length := by omega
        have i2 : (ps.length : Int) ≤ 6 := by omega
        simp [i1, i2]
      cases hc : chkP [] ps with
      | none =>
        rw [hc] at st
        exact mDefB_nx (k := 6) (s := RM.bB_Market__check_products_0) (σ := x :: ρ) (ds := [x, .lst (ps.map prdD)]) st
      | some e =>
        rw [hc] at st
        exact mDefB_exc (k := 6) (s := RM.bB_Market__check_products_0) (σ := x :: ρ) (ds := [x, .lst (ps.map prdD)]) st
    · rw [if_neg (by omega)]
      refine mDefB_exc (ds := [x, .lst (ps.map prdD)]) (σ := [x, .lst (ps.map prdD), .non, .non, .non, .non, .non, .non]) ?_
      have i1 : (1 : Int) ≤ ps.length := by omega
      have i2 : ¬ (ps.length : Int) ≤ 6 := by omega
      unfold RM.bB_Market__check_products_0
      simp [i1, i2]
  · rw [if_neg (by omega)]
    refine mDefB_exc (ds := [x, .lst (ps.map prdD)]) (σ := [x, .lst (ps.map prdD), .non, .non, .non, .non, .non, .non]) ?_
    have i1 : ¬ (1 : Int) ≤ ps.length := by omega
    unfold RM.bB_Market__check_products_0
    simp [i1]
/-! ### rivalries -/
structure Riv where
  a : Str
  b : Str
  x : Rat
def rivD (r : Riv) : D := .tup [.str r.a, .str r.b, rq r.x]
abbrev KR := List (List Key × Rat)
def kvD (r : KR) : List (List Key × D) := r.map fun kv => (kv.1, rq kv.2)
def valR (r : KR) (k : List Key) : Option Rat := (r.find? fun kv => decide (kv.1 = k)).map (·.2)
def putR (r : KR) (k : List Key) (x : Rat) : KR := if (r.any fun kv => decide (kv.1 = k)) = true then r.map (fun kv => if kv.1 = k then (kv.1, x) else kv) else r ++ [(k, x)]
theorem valD_kvD {r : KR} {k : List Key} : valD (kvD r) k = (valR r k).map rq := by
  unfold valD kvD valR
  rw [List.find?_map, Option.map_map, Option.map_map]
  rfl
theorem putD_kvD {r : KR} {k : List Key} {x : Rat} : putD (kvD r) k (rq x) = kvD (putR r k x) := by
  have e : ((kvD r).any fun kv => decide (kv.1 = k)) = (r.any fun kv => decide (kv.1 = k)) := by
    unfold kvD
    rw [List.any_map]
    rfl
  unfold putD putR
  rw [e]
  split
  · unfold kvD
    rw [List.map_map, List.map_map]
    refine List.map_congr_left fun kv _ => ?_
    simp only [Function.comp]
    split <;> rfl
  · unfold kvD
    rw [List.map_append]
    rfl
def mk0 (P : List D) (kv : List (List Key × D)) : D := .ins 0 [("products", .lst P), ("_crosses", .dT kv)]
abbrev shM : Sh := .i 0 (.cons .d (.cons .dt .nil))
theorem kid_crosses {P : List D} {kv : List (List Key × D)} : kidAt shM "_crosses" 1 (mk0 P kv) = some (.dT kv) := by
  have e : fldAt "_crosses" 1 [("products", .lst P), ("_crosses", .dT kv)] = true := by
    have h : ((Str.ofString "_crosses") == (Str.ofString "products")) = false := by decide +kernel
    simp [fldAt, List.lookup, h]
  unfold kidAt mk0 shM
  simp [e]
theorem kid_products {P : List D} {kv : List (List Key × D)} : kidAt shM "products" 0 (mk0 P kv) = some (.lst P) := by
  have e : fldAt "products" 0 [("products", .lst P), ("_crosses", .dT kv)] = true := by
    simp [fldAt]
  unfold kidAt mk0 shM
  simp [e]
theorem put_crosses {P : List D} {kv kv2 : List (List Key × D)} : putKid (mk0 P kv) 1 (.dT kv2) = mk0 P kv2 := rfl
theorem names_B (ps : List Prd) {kv : List (List Key × D)} (hl : ps.length ≤ 900) : RM.mB_Market_names [mk0 (ps.map prdD) kv] = .ok (.lst ((ps.map (·.nm)).map .str)) (mk0 (ps.map prdD) kv) := by
  have k := kid_products (P := ps.map prdD) (kv := kv)
  refine mDefB_ret (k := 1) (s := RM.bB_Market_names) (ds := [mk0 (ps.map prdD) kv]) (σ := [mk0 (ps.map prdD) kv, .non]) ?_
  unfold RM.bB_Market_names RM.bB_Market_names_C0
  simp [k]
  rw [lcL_of (g := fun p => .str p.nm) ps]
  · rfl
  · intro p hp
    refine ⟨_, [mk0 (ps.map prdD) kv, prdD p], rfl, ?_, rfl⟩
    unfold RM.bB_Market_names_C0e
    simp [prdD]
def addR (ns : List Str) (r : KR) (v : Riv) : Except Err KR :=
  if v.a ∈ ns ∧ v.b ∈ ns then (if v.a = v.b ∨ ¬ 0 < v.x then .error .market else if (valR r (pair v.a v.b)).isSome = true then .error .dup else .ok (putR (putR r (pair v.a v.b) v.x) (pair v.b v.a) v.x)) else .error .unknown
theorem putR_len {r : KR} {k : List Key} {x : Rat} : (putR r k x).length ≤ r.length + 1 := by
  unfold putR
  split <;> simp
theorem kvD_len {r : KR} : (kvD r).length = r.length := by simp [kvD]
theorem add_B (ps : List Prd) {r : KR} {v : Riv} (hl : ps.length ≤ 900) (hv : Wd v.x) (hr : r.length < 900) :
    RM.mB_Market__add_rivalry [mk0 (ps.map prdD) (kvD r), .str v.a, .str v.b, rq v.x] = (match addR (ps.map (·.nm)) r v with | .ok r2 => .ok .non (mk0 (ps.map prdD) (kvD r2)) | .error e => .exc e (mk0 (ps.map prdD) (kvD r))) := by
  have nm := names_B ps (kv := kvD r) hl
  have nn : noName "names" (mk0 (ps.map prdD) (kvD r)) = true := by
    have h : ((Str.ofString "names") == (Str.ofString "products")) = false := by decide +kernel
    have h2 : ((Str.ofString "names") == (Str.ofString "_crosses")) = false := by decide +kernel
    simp [noName, mk0, List.lookup, h, h2]
  have kk : kindOk shM (mk0 (ps.map prdD) (kvD r)) = true := rfl
  have l := less_w wd_zero hv
  have gt : ∀ kv : List (List Key × D), kidAt shM "_crosses" 1 (mk0 (ps.map prdD) kv) = some (.dT kv) := fun kv => kid_crosses
  generalize hm : mk0 (ps.map prdD) (kvD r) = M at nm nn kk
  have turn : ∀ (a b c y : D) (s : Str), RM.bB_Market__add_rivalry_L0 [M, a, b, c, .str s] = if s ∈ ps.map (·.nm) then .nx [M, a, b, c, .non] else .exc .unknown [M, a, b, c, .str s] := fun a b c y s => by
    unfold RM.bB_Market__add_rivalry_L0
    by_cases q : s ∈ ps.map (·.nm)
    · simp only [mIf_eq, mCmpT_eq, mVar_eq, List.getD_cons_succ, List.getD_cons_zero, op1_ok, mMethB_eq, nn, kk, and_self, if_true, mNil_eq, callB_ok, List.append_nil, nm, bto_ok, op2_ok, fNotIn_strs, q]
      simp
    · simp only [mIf_eq, mCmpT_eq, mVar_eq, List.getD_cons_succ, List.getD_cons_zero, op1_ok, mMethB_eq, nn, kk, and_self, if_true, mNil_eq, callB_ok, List.append_nil, nm, bto_ok, op2_ok, fNotIn_strs, q]
      simp
  have c1 : kidAt shM "_crosses" 1 M = some (.dT (kvD r)) := by rw [← hm]; exact kid_crosses
  have g1 : fDIn (.dT (kvD r)) (.tup [.str v.a, .str v.b]) = some (valR r (pair v.a v.b)).isSome := by
    have : fDIn (.dT (kvD r)) (.tup [.str v.a, .str v.b]) = some (valD (kvD r) (pair v.a v.b)).isSome := rfl
    rw [this, valD_kvD]
    simp
  have t : mPIn (mTup (mCons (mVar 1) (mCons (mVar 2) mNil))) (plK 0 shM "_crosses" 1) [M, .str v.a, .str v.b, rq v.x, .non] = .ok (valR r (pair v.a v.b)).isSome [M, .str v.a, .str v.b, rq v.x, .non] :=
    pIn_ok (i := 0) (ρ1 := [M, .str v.a, .str v.b, rq v.x, .non]) (by simp) c1 g1
  have b1 : fDPut (.dT (kvD r)) (.tup [.str v.a, .str v.b]) (rq v.x) = some (.dT (kvD (putR r (pair v.a v.b) v.x))) := by
    have : fDPut (.dT (kvD r)) (.tup [.str v.a, .str v.b]) (rq v.x) = if (kvD r).length < 1000000 then some (.dT (putD (kvD r) (pair v.a v.b) (rq v.x))) else none := rfl
    rw [this, if_pos (by rw [kvD_len]; omega), putD_kvD]
  have b2 : fDPut (.dT (kvD (putR r (pair v.a v.b) v.x))) (.tup [.str v.b, .str v.a]) (rq v.x) = some (.dT (kvD (putR (putR r (pair v.a v.b) v.x) (pair v.b v.a) v.x))) := by
    have : fDPut (.dT (kvD (putR r (pair v.a v.b) v.x))) (.tup [.str v.b, .str v.a]) (rq v.x) = if (kvD (putR r (pair v.a v.b) v.x)).length < 1000000 then some (.dT (putD (kvD (putR r (pair v.a v.b) v.x)) (pair v.b v.a) (rq v.x))) else none := rfl
    have := putR_len (r := r) (k := pair v.a v.b) (x := v.x)
    rw [‹fDPut _ _ _ = ite _ _ _›, if_pos (by rw [kvD_len]; omega), putD_kvD]
  have p1 : mPPut (plK 0 shM "_crosses" 1) (mTup (mCons (mVar 1) (mCons (mVar 2) mNil))) (mVar 3) [M, .str v.a, .str v.b, rq v.x, .non] = .nx [mk0 (ps.map prdD) (kvD (putR r (pair v.a v.b) v.x)), .str v.a, .str v.b, rq v.x, .non] := by
    have := pPut_ok (i := 0) (sh := shM) (f := "_crosses") (j := 1) (b := mTup (mCons (mVar 1) (mCons (mVar 2) mNil))) (v := mVar 3) (ρ := [M, .str v.a, .str v.b, rq v.x, .non]) (ρ1 := [M, .str v.a, .str v.b, rq v.x, .non]) (ρ2 := [M, .str v.a, .str v.b, rq v.x, .non]) rfl (by simp) c1 b1
    rw [this, ← hm]
    rfl
  have p2 : mPPut (plK 0 shM "_crosses" 1) (mTup (mCons (mVar 2) (mCons (mVar 1) mNil))) (mVar 3) [mk0 (ps.map prdD) (kvD (putR r (pair v.a v.b) v.x)), .str v.a, .str v.b, rq v.x, .non] = .nx [mk0 (ps.map prdD) (kvD (putR (putR r (pair v.a v.b) v.x) (pair v.b v.a) v.x)), .str v.a, .str v.b, rq v.x, .non] := by
    have := pPut_ok (i := 0) (sh := shM) (f := "_crosses") (j := 1) (b := mTup (mCons (mVar 2) (mCons (mVar 1) mNil))) (v := mVar 3) (ρ := [mk0 (ps.map prdD) (kvD (putR r (pair v.a v.b) v.x)), .str v.a, .str v.b, rq v.x, .non]) (ρ1 := [mk0 (ps.map prdD) (kvD (putR r (pair v.a v.b) v.x)), .str v.a, .str v.b, rq v.x, .non]) (ρ2 := [mk0 (ps.map prdD) (kvD (putR r (pair v.a v.b) v.x)), .str v.a, .str v.b, rq v.x, .non]) rfl (by simp) kid_crosses b2
    rw [this]
    rfl
  unfold addR
  by_cases q1 : v.a ∈ ps.map (·.nm)
  · by_cases q2 : v.b ∈ ps.map (·.nm)
    · have lp : forL (bName 4) RM.bB_Market__add_rivalry_L0 [.str v.a, .str v.b] [M, .str v.a, .str v.b, rq v.x, .non] = .nx [M, .str v.a, .str v.b, rq v.x, .non] := by
        refine forL_same fun d hd => ?_
        rcases List.mem_cons.mp hd with z | z
        · exact ⟨_, rfl, .inl (by rw [z]; exact (turn _ _ _ .non _).trans (if_pos q1))⟩
        · rcases List.mem_cons.mp z with z | z
          · exact ⟨_, rfl, .inl (by rw [z]; exact (turn _ _ _ .non _).trans (if_pos q2))⟩
          · simp at z
      rw [if_pos ⟨q1, q2⟩]
      by_cases q3 : v.a = v.b
      · rw [if_pos (.inl q3)]
        refine (mDefB_exc (k := 1) (s := RM.bB_Market__add_rivalry) (ds := [M, .str v.a, .str v.b, rq v.x]) (e := .market) (σ := [M, .str v.a, .str v.b, rq v.x, .non]) ?_)
        show RM.bB_Market__add_rivalry [M, .str v.a, .str v.b, rq v.x, .non] = _
        unfold RM.bB_Market__add_rivalry
        simp only [mSeq_eq, mFor_eq, mItT_eq, mTup_eq, mCons_eq, mVar_eq, mNil_eq, List.getD_cons_succ, List.getD_cons_zero, cons1_ok, cons2_ok, tup_ok, List.length_cons, List.length_nil, itT_tup, forIn_ok]
        simp [lp]
        simp [q3]
      · by_cases q4 : 0 < v.x
        · rw [if_neg (by simp [q3, q4])]
          by_cases q5 : (valR r (pair v.a v.b)).isSome = true
          · rw [if_pos q5]
            refine (mDefB_exc (k := 1) (s := RM.bB_Market__add_rivalry) (ds := [M, .str v.a, .str v.b, rq v.x]) (e := .dup) (σ := [M, .str v.a, .str v.b, rq v.x, .non]) ?_)
            show RM.bB_Market__add_rivalry [M, .str v.a, .str v.b, rq v.x, .non] = _
            unfold RM.bB_Market__add_rivalry
            rw [q5] at t
            simp [lp, q3, q4, rq_zero, l, t]
          · rw [if_neg q5]
            have q6 : (valR r (pair v.a v.b)).isSome = false := by simpa using q5
            refine (mDefB_nx (k := 1) (s := RM.bB_Market__add_rivalry) (ds := [M, .str v.a, .str v.b, rq v.x]) (σ := [mk0 (ps.map prdD) (kvD (putR (putR r (pair v.a v.b) v.x) (pair v.b v.a) v.x)), .str v.a, .str v.b, rq v.x, .non]) ?_)
            show RM.bB_Market__add_rivalry [M, .str v.a, .str v.b, rq v.x, .non] = _
            unfold RM.bB_Market__add_rivalry
            rw [q6] at t
            simp [lp, q3, q4, rq_zero, l, t, p1, p2]
        · rw [if_pos (.inr q4)]
          refine (mDefB_exc (k := 1) (s := RM.bB_Market__add_rivalry) (ds := [M, .str v.a, .str v.b, rq v.x]) (e := .market) (σ := [M, .str v.a, .str v.b, rq v.x, .non]) ?_)
          show RM.bB_Market__add_rivalry [M, .str v.a, .str v.b, rq v.x, .non] = _
          unfold RM.bB_Market__add_rivalry
          simp [lp, q3, q4, rq_zero, l]
    · rw [if_neg (fun z => q2 z.2)]
      refine (mDefB_exc (k := 1) (s := RM.bB_Market__add_rivalry) (ds := [M, .str v.a, .str v.b, rq v.x]) (e := .unknown) (σ := [M, .str v.a, .str v.b, rq v.x, .str v.b]) ?_)
      show RM.bB_Market__add_rivalry [M, .str v.a, .str v.b, rq v.x, .non] = _
      unfold RM.bB_Market__add_rivalry
      have t1 := (turn (.str v.a) (.str v.b) (rq v.x) .non v.a).trans (if_pos q1)
      have t2 := (turn (.str v.a) (.str v.b) (rq v.x) .non v.b).trans (if_neg q2)
      simp [forL_cons, t1, t2]
  · rw [if_neg (fun z => q1 z.1)]
    refine (mDefB_exc (k := 1) (s := RM.bB_Market__add_rivalry) (ds := [M, .str v.a, .str v.b, rq v.x]) (e := .unknown) (σ := [M, .str v.a, .str v.b, rq v.x, .str v.a]) ?_)
    show RM.bB_Market__add_rivalry [M, .str v.a, .str v.b, rq v.x, .non] = _
    unfold RM.bB_Market__add_rivalry
    have t1 := (turn (.str v.a) (.str v.b) (rq v.x) .non v.a).trans (if_neg q1)
    simp [forL_cons, t1]
end MR

set_option Elab.async false
set_option linter.all false
set_option maxRecDepth 100000
set_option maxHeartbeats 1000000
/-! PK: what Market(products, rivalries) makes. -/
namespace MR
open PySem L2
/-! ### sorting products -/
theorem insB_map {α β : Type} {lt : α → α → Bool} {lt' : β → β → Bool} {f : α → β} (h : ∀ a b, lt' (f a) (f b) = lt a b) (x : α) : ∀ l : List α, insB lt' (f x) (l.map f) = (insB lt x l).map f
  | [] => rfl
  | y :: ys => by
    rw [List.map_cons]
    unfold insB
    rw [h]
    split
    · rw [insB_map h x ys, List.map_cons]
    · rfl
theorem sortB_map {α β : Type} {lt : α → α → Bool} {lt' : β → β → Bool} {f : α → β} (h : ∀ a b, lt' (f a) (f b) = lt a b) : ∀ l : List α, sortB lt' (l.map f) = (sortB lt l).map f
  | [] => rfl
  | x :: xs => by
    rw [List.map_cons]
    unfold sortB
    rw [sortB_map h xs, insB_map h]
def ltPr (p q : Prd) : Bool := ltS p.nm q.nm
def sortPr (ps : List Prd) : List Prd := sortB ltPr ps
theorem sortPr_perm (ps : List Prd) : (sortPr ps).Perm ps := sortB_perm (lt := ltPr) ps
theorem keyed_prd : ∀ ps : List Prd, keyed first1 (ps.map prdD) = some (ps.map fun p => ([p.nm], prdD p))
  | [] => rfl
  | p :: ps => by
    rw [List.map_cons]
    unfold keyed
    rw [keyed_prd ps]
    rfl
theorem sorted_prd {ps : List Prd} (h1 : 1 ≤ ps.length) (h2 : ps.length < 64) (hn : (ps.map (·.nm)).Nodup) : fSorted [.lst (ps.map prdD)] = some (.lst ((sortPr ps).map prdD)) := by
  have s0 : fSortS (.lst (ps.map prdD)) = none := by
    unfold fSortS
    match ps, h1 with
    | p :: ps, _ => rfl
  have s1 : fSort1 (.lst (ps.map prdD)) = some (.lst ((sortPr ps).map prdD)) := by
    show ((keyed first1 (ps.map prdD)).bind fun r => if r.length < 64 ∧ (r.map (·.1)).Nodup then some (D.lst ((sortB ltP r).map (·.2))) else none) = _
    rw [keyed_prd]
    have nd : ((ps.map fun p => ([p.nm], prdD p)).map (·.1)).Nodup := by
      rw [List.map_map]
      have e : (fun p : Prd => [p.nm]) = (fun s : Str => [s]) ∘ (·.nm) := rfl
      show (ps.map fun p => [p.nm]).Nodup
      rw [e, ← List.map_map]
      exact List.Pairwise.map (fun s : Str => [s]) (fun a b hab z => hab (by simpa using z)) hn
    have lt : ∀ p q : Prd, ltP (([p.nm], prdD p)) (([q.nm], prdD q)) = ltPr p q := fun p q => by
      show TX.lexT [p.nm] [q.nm] = ltS p.nm q.nm
      unfold TX.lexT
      split
      · rename_i e
        rw [e, ltS_irr]
        rfl
      · rfl
    show (if (ps.map fun p => ([p.nm], prdD p)).length < 64 ∧ ((ps.map fun p => ([p.nm], prdD p)).map (·.1)).Nodup then some (D.lst ((sortB ltP (ps.map fun p => ([p.nm], prdD p))).map (·.2))) else none) = _
    rw [if_pos ⟨by simpa using h2, nd⟩, sortB_map (lt := ltPr) (f := fun p : Prd => ([p.nm], prdD p)) lt, List.map_map]
    rfl
  show (match fSortS (.lst (ps.map prdD)) with
  | some z => some z
  | none => fSort1 (.lst (ps.map prdD))) = _
  rw [s0]
  exact s1
theorem chkP_nodup : ∀ (ps : List Prd) (seen : List Str), chkP seen ps = none → (∀ p ∈ ps, p.nm ∉ seen) ∧ (ps.map (·.nm)).Nodup
  | [], seen, _ => ⟨fun _ h => by simp at h, List.nodup_nil⟩
  | p :: ps, seen, h => by
    unfold chkP at h
    split at h
    · split at h
      · cases h
      · rename_i n1
        split at h
        · obtain ⟨a, b⟩ := chkP_nodup ps (seen ++ [p.nm]) h
          refine ⟨fun q hq => ?_, ?_⟩
          · rcases List.mem_cons.mp hq with z | z
            · rw [z]; exact n1
            · exact fun y => a q z (List.mem_append_left _ y)
          · rw [List.map_cons, List.nodup_cons]
            refine ⟨fun y => ?_, b⟩
            obtain ⟨q, hq, e⟩ := List.mem_map.mp y
            exact a q hq (by rw [e]; simp)
        · cases h
    · cases h
/-! ### the rivalries, one by one -/
def addAll (ns : List Str) : KR → List Riv → Except Err KR
  | r, [] => .ok r
  | r, v :: vs => match addR ns r v with
    | .ok r2 => addAll ns r2 vs
    | .error e => .error e
def KrOk (D B : Nat) (r : KR) : Prop := ∀ kv ∈ r, Cn D B kv.2
theorem putR_ok {D B : Nat} {r : KR} {k : List Key} {x : Rat} (h : KrOk D B r) (hx : Cn D B x) : KrOk D B (putR r k x) := by
  unfold putR
  split
  · intro kv hkv
    obtain ⟨y, hy, e⟩ := List.mem_map.mp hkv
    rw [← e]
    split
    · exact hx
    · exact h y hy
  · intro kv hkv
    rcases List.mem_append.mp hkv with z | z
    · exact h kv z
    · rw [List.mem_singleton.mp z]; exact hx
theorem addR_ok {D B : Nat} {ns : List Str} {r r2 : KR} {v : Riv} (h : KrOk D B r) (hx : Cn D B v.x) (e : addR ns r v = .ok r2) : KrOk D B r2 ∧ r2.length ≤ r.length + 2 := by
  unfold addR at e
  split at e
  · split at e
    · cases e
    · split at e
      · cases e
      · cases e
        have a := putR_len (r := r) (k := pair v.a v.b) (x := v.x)
        have b := putR_len (r := putR r (pair v.a v.b) v.x) (k := pair v.b v.a) (x := v.x)
        exact ⟨putR_ok (putR_ok h hx) hx, by omega⟩
  · cases e
theorem addAll_ok {D B : Nat} {ns : List Str} : ∀ (vs : List Riv) {r r2 : KR}, KrOk D B r → (∀ v ∈ vs, Cn D B v.x) → addAll ns r vs = .ok r2 → KrOk D B r2
  | [], r, r2, h, _, e => by cases e; exact h
  | v :: vs, r, r2, h, hx, e => by
    unfold addAll at e
    split at e
    · rename_i r3 e3
      exact addAll_ok vs (addR_ok h (hx v List.mem_cons_self) e3).1 (fun w hw => hx w (List.mem_cons_of_mem _ hw)) e
    · cases e
theorem valR_ok {D B : Nat} {r : KR} {k : List Key} (h : KrOk D B r) : Cn D B ((valR r k).getD 0) := by
  unfold valR
  cases e : r.find? fun kv => decide (kv.1 = k) with
  | none => exact .zero
  | some kv => exact h kv (List.mem_of_find?_eq_some e)
def totR (r : KR) (s : Str) : List Str → Rat
  | [] => 0
  | t :: ts => (valR r (pair s t)).getD 0 + totR r s ts
theorem totR_cons {r : KR} {s t : Str} {ts : List Str} : totR r s (t :: ts) = (valR r (pair s t)).getD 0 + totR r s ts := rfl
/-- what the two lists make -/
def mkInit (ps : List Prd) (rs : List Riv) : Except Err (List Prd × KR) :=
  match (if 1 ≤ ps.length ∧ ps.length ≤ 6 then chkP [] ps else some .market) with
  | some e => .error e
  | none => match addAll ((sortPr ps).map (·.nm)) [] rs with
    | .error e => .error e
    | .ok r => if ∀ p ∈ sortPr ps, totR r p.nm ((sortPr ps).map (·.nm)) < p.o then .ok (sortPr ps, r) else .error .market
abbrev gRiv : MB := bTup 3 (bCons (bName 3) (bCons (bName 4) (bCons (bName 5) bNil)))
theorem noName_mk0 {P : List D} {kv : List (List Key × D)} {f : Str} (h : (f == "products") = false) (h2 : (f == "_crosses") = false) : noName f (mk0 P kv) = true := by
  simp [noName, mk0, List.lookup, h, h2]
theorem riv_loop {D B : Nat} {ps : List Prd} {y : MR.D} (hl : ps.length ≤ 900) (D0 : 0 < D) (hD : D < 2 ^ 1000) (hB : B < 2 ^ 1000) : ∀ (vs : List Riv) (r : KR), KrOk D B r → (∀ v ∈ vs, Cn D B v.x) → r.length + 2 * vs.length < 900 →
    ∃ ρ, forL gRiv RM.bI_Market___init___L0 (vs.map rivD) [mk0 (ps.map prdD) (kvD r), .non, y, .non, .non, .non, .non, .non, .non, .non, .non, .non] =
      (match addAll (ps.map (·.nm)) r vs with | .ok r2 => .nx [mk0 (ps.map prdD) (kvD r2), .non, y, .non, .non, .non, .non, .non, .non, .non, .non, .non] | .error e => .exc e ρ)
  | [], r, _, _, _ => ⟨[], rfl⟩
  | v :: vs, r, hr, hx, hn => by
    simp only [List.length_cons] at hn
    have wv : Wd v.x := wd_small (hx v List.mem_cons_self) D0 hD hB
    have ad := add_B ps (r := r) (v := v) hl wv (by omega)
    have nn : noName "_add_rivalry" (mk0 (ps.map prdD) (kvD r)) = true := noName_mk0 (by decide +kernel) (by decide +kernel)
    have kk : kindOk shM (mk0 (ps.map prdD) (kvD r)) = true := rfl
    rw [List.map_cons, forL_cons]
    unfold addAll
    cases e : addR (ps.map (·.nm)) r v with
    | error e1 =>
      rw [e] at ad
      refine ⟨[mk0 (ps.map prdD) (kvD r), .non, y, .str v.a, .str v.b, rq v.x, .non, .non, .non, .non, .non, .non], ?_⟩
      unfold RM.bI_Market___init___L0
      simp [rivD, nn, kk, ad]
    | ok r2 =>
      rw [e] at ad
      obtain ⟨h2, l2⟩ := addR_ok hr (hx v List.mem_cons_self) e
      obtain ⟨ρ, ih⟩ := riv_loop (y := y) hl D0 hD hB vs r2 h2 (fun w hw => hx w (List.mem_cons_of_mem _ hw)) (by omega)
      refine ⟨ρ, ?_⟩
      have st : RM.bI_Market___init___L0 [mk0 (ps.map prdD) (kvD r), .non, y, .str v.a, .str v.b, rq v.x, .non, .non, .non, .non, .non, .non] = .nx [mk0 (ps.map prdD) (kvD r2), .non, y, .non, .non, .non, .non, .non, .non, .non, .non, .non] := by
        unfold RM.bI_Market___init___L0
        simp [nn, kk, ad]
      show Out.loop (RM.bI_Market___init___L0 [mk0 (ps.map prdD) (kvD r), .non, y, .str v.a, .str v.b, rq v.x, .non, .non, .non, .non, .non, .non]) _ = _
      rw [st, loop_nx, ih]
theorem cross_B {P : List D} {r : KR} {a b : Str} : RM.mB_Market_cross [mk0 P (kvD r), .str a, .str b] = .ok (rq ((valR r (pair a b)).getD 0)) (mk0 P (kvD r)) := by
  have g : fDGet (.dT (kvD r)) (.tup [.str a, .str b]) = some ((valR r (pair a b)).map rq) := by
    have : fDGet (.dT (kvD r)) (.tup [.str a, .str b]) = some (valD (kvD r) (pair a b)) := rfl
    rw [this, valD_kvD]
  have t := pGet2_ok (i := 0) (sh := shM) (f := "_crosses") (j := 1) (b := mTup (mCons (mVar 1) (mCons (mVar 2) mNil))) (z := mC (.tup [.int 0, .int 1])) (ρ := [mk0 P (kvD r), .str a, .str b]) (ρ1 := [mk0 P (kvD r), .str a, .str b]) (ρ2 := [mk0 P (kvD r), .str a, .str b]) (by simp) rfl kid_crosses g
  refine mDefB_ret (k := 0) (s := RM.bB_Market_cross) (ds := [mk0 P (kvD r), .str a, .str b]) (σ := [mk0 P (kvD r), .str a, .str b]) ?_
  show RM.bB_Market_cross [mk0 P (kvD r), .str a, .str b] = _
  unfold RM.bB_Market_cross
  rw [mRet_eq, t]
  have e : ((valR r (pair a b)).map rq).getD (.tup [.int 0, .int 1]) = rq ((valR r (pair a b)).getD 0) := by
    cases valR r (pair a b) <;> rfl
  rw [e]
  rfl
theorem tot_loop {D B : Nat} {P : List MR.D} {r : KR} {s : Str} {o : MR.D} (hr : KrOk D B r) (D0 : 0 < D) (hD : D < 2 ^ 1000) (hB : B < 2 ^ 1000) : ∀ (ts : List Str) (j : Nat) (t : Rat), j + ts.length ≤ 900 → Cn D (j * B) t →
    forL (bName 4) RM.bI_Market___init___L2 (ts.map .str) [mk0 P (kvD r), .non, .non, .non, .non, .non, .str s, .non, .non, o, .non, rq t] = .nx [mk0 P (kvD r), .non, .non, .non, .non, .non, .str s, .non, .non, o, .non, rq (t + totR r s ts)]
      ∧ Cn D ((j + ts.length) * B) (t + totR r s ts)
  | [], j, t, _, ht => ⟨by simp [totR, Rat.add_zero], by simpa [totR, Rat.add_zero] using ht⟩
  | a :: ts, j, t, hj, ht => by
    simp only [List.length_cons] at hj
    have hx := valR_ok (k := pair s a) hr
    have big : ∀ i, i ≤ 900 → i * B < 2 ^ 1010 := fun i hi => by
      have : i * B ≤ 900 * B := Nat.mul_le_mul hi (Nat.le_refl _)
      have e : (2 : Nat) ^ 1010 = 2 ^ 1000 * 1024 := by rw [show (1010 : Nat) = 1000 + 10 from rfl, Nat.pow_add]
      rw [e]
      omega
    have w1 : Wd t := wd_small ht D0 hD (big j (by omega))
    have w2 : Wd ((valR r (pair s a)).getD 0) := wd_small hx D0 hD hB
    have ad := add_w w1 w2
    have c : Cn D ((j + 1) * B) (t + (valR r (pair s a)).getD 0) := by rw [Nat.add_mul, Nat.one_mul]; exact ht.add hx D0
    have nn : noName "cross" (mk0 P (kvD r)) = true := noName_mk0 (by decide +kernel) (by decide +kernel)
    have kk : kindOk shM (mk0 P (kvD r)) = true := rfl
    have cr := cross_B (P := P) (r := r) (a := s) (b := a)
    have st : RM.bI_Market___init___L2 [mk0 P (kvD r), .non, .non, .non, .str a, .non, .str s, .non, .non, o, .non, rq t] = .nx [mk0 P (kvD r), .non, .non, .non, .non, .non, .str s, .non, .non, o, .non, rq (t + (valR r (pair s a)).getD 0)] := by
      unfold RM.bI_Market___init___L2
      simp [nn, kk, cr, ad]
    obtain ⟨h1, h2⟩ := tot_loop (P := P) (s := s) (o := o) hr D0 hD hB ts (j + 1) _ (by omega) c
    rw [List.map_cons, forL_cons]
    refine ⟨?_, ?_⟩
    · show Out.loop (RM.bI_Market___init___L2 [mk0 P (kvD r), .non, .non, .non, .str a, .non, .str s, .non, .non, o, .non, rq t]) _ = _
      rw [st, loop_nx, h1, totR_cons, Rat.add_assoc]
    · rw [totR_cons, ← Rat.add_assoc, List.length_cons, show j + (ts.length + 1) = j + 1 + ts.length by omega]
      exact h2
abbrev gPrd2 : MB := bTup 5 (bCons (bName 6) (bCons (bName 7) (bCons (bName 8) (bCons (bName 9) (bCons (bName 10) bNil)))))
theorem own_loop {D B : Nat} {ps : List Prd} {r : KR} (hr : KrOk D B r) (D0 : 0 < D) (hD : D < 2 ^ 1000) (hB : B < 2 ^ 1000) (hl : ps.length ≤ 800) : ∀ qs : List Prd, (∀ p ∈ qs, Wd p.o) →
    ((∀ p ∈ qs, totR r p.nm (ps.map (·.nm)) < p.o) ∧ ∃ ρ, forL gPrd2 RM.bI_Market___init___L1 (qs.map prdD) [mk0 (ps.map prdD) (kvD r), .non, .non, .non, .non, .non, .non, .non, .non, .non, .non, .non] = .nx (mk0 (ps.map prdD) (kvD r) :: ρ)) ∨
    ((¬ ∀ p ∈ qs, totR r p.nm (ps.map (·.nm)) < p.o) ∧ ∃ ρ, forL gPrd2 RM.bI_Market___init___L1 (qs.map prdD) [mk0 (ps.map prdD) (kvD r), .non, .non, .non, .non, .non, .non, .non, .non, .non, .non, .non] = .exc .market ρ)
  | [], _ => .inl ⟨fun _ h => by simp at h, _, rfl⟩
  | p :: qs, hq => by
    obtain ⟨t1, t2⟩ := tot_loop (P := ps.map prdD) (s := p.nm) (o := rq p.o) hr D0 hD hB (ps.map (·.nm)) 0 0 (by simp; omega) .zero
    rw [Rat.zero_add] at t1 t2
    have nm := names_B ps (kv := kvD r) (by omega)
    have nn : noName "names" (mk0 (ps.map prdD) (kvD r)) = true := noName_mk0 (by decide +kernel) (by decide +kernel)
    have kk : kindOk shM (mk0 (ps.map prdD) (kvD r)) = true := rfl
    have w1 : Wd (totR r p.nm (ps.map (·.nm))) := wd_small (l := 1010) t2 D0 hD (by
      have : (0 + (ps.map (·.nm)).length) * B ≤ 900 * B := Nat.mul_le_mul (by simp; omega) (Nat.le_refl _)
      have e : (2 : Nat) ^ 1010 = 2 ^ 1000 * 1024 := by rw [show (1010 : Nat) = 1000 + 10 from rfl, Nat.pow_add]
      rw [e]
      omega)
    have ls := less_w w1 (hq p List.mem_cons_self)
    rw [List.map_cons, forL_cons]
    by_cases q : totR r p.nm (ps.map (·.nm)) < p.o
    · have st : RM.bI_Market___init___L1 [mk0 (ps.map prdD) (kvD r), .non, .non, .non, .non, .non, .str p.nm, .str p.ow, rq p.b, rq p.o, rq p.c, .non] = .nx [mk0 (ps.map prdD) (kvD r), .non, .non, .non, .non, .non, .non, .non, .non, .non, .non, .non] := by
        unfold RM.bI_Market___init___L1
        simp only [mSeq_eq, mAsg_eq, mC_eq, asg_ok, then_nx, mKeep0_eq, mFor_eq, mItL_eq, mMethB_eq, List.set, keep_x, keep_d, keep_s, keep_nil, List.getD_cons_zero, nn, kk, and_self, if_true, mNil_eq, callB_ok, List.append_nil, nm, bto_ok, un_ok, items_lst, rr_of_some, forIn_ok, rq_zero, t1]
        simp [ls, q]
      rcases own_loop hr D0 hD hB hl qs (fun z hz => hq z (List.mem_cons_of_mem _ hz)) with ⟨a, ρ, b⟩ | ⟨a, ρ, b⟩
      · refine .inl ⟨fun z hz => ?_, ρ, ?_⟩
        · rcases List.mem_cons.mp hz with y | y
          · rw [y]; exact q
          · exact a z y
        · show Out.loop (RM.bI_Market___init___L1 [mk0 (ps.map prdD) (kvD r), .non, .non, .non, .non, .non, .str p.nm, .str p.ow, rq p.b, rq p.o, rq p.c, .non]) _ = _
          rw [st, loop_nx, b]
      · refine .inr ⟨fun z => a fun y hy => z y (List.mem_cons_of_mem _ hy), ρ, ?_⟩
        show Out.loop (RM.bI_Market___init___L1 [mk0 (ps.map prdD) (kvD r), .non, .non, .non, .non, .non, .str p.nm, .str p.ow, rq p.b, rq p.o, rq p.c, .non]) _ = _
        rw [st, loop_nx, b]
    · refine .inr ⟨fun z => q (z p List.mem_cons_self), [mk0 (ps.map prdD) (kvD r), .non, .non, .non, .non, .non, .str p.nm, .non, .non, rq p.o, .non, rq (totR r p.nm (ps.map (·.nm)))], ?_⟩
      have st : RM.bI_Market___init___L1 [mk0 (ps.map prdD) (kvD r), .non, .non, .non, .non, .non, .str p.nm, .str p.ow, rq p.b, rq p.o, rq p.c, .non] = .exc .market [mk0 (ps.map prdD) (kvD r), .non, .non, .non, .non, .non, .str p.nm, .non, .non, rq p.o, .non, rq (totR r p.nm (ps.map (·.nm)))] := by
        unfold RM.bI_Market___init___L1
        simp only [mSeq_eq, mAsg_eq, mC_eq, asg_ok, then_nx, mKeep0_eq, mFor_eq, mItL_eq, mMethB_eq, List.set, keep_x, keep_d, keep_s, keep_nil, List.getD_cons_zero, nn, kk, and_self, if_true, mNil_eq, callB_ok, List.append_nil, nm, bto_ok, un_ok, items_lst, rr_of_some, forIn_ok, rq_zero, t1]
        simp [ls, q]
      show Out.loop (RM.bI_Market___init___L1 [mk0 (ps.map prdD) (kvD r), .non, .non, .non, .non, .non, .str p.nm, .str p.ow, rq p.b, rq p.o, rq p.c, .non]) _ = _
      rw [st, loop_exc]
/-- what Market's two lists may be -/
structure InOk (D B : Nat) (ps : List Prd) (rs : List Riv) : Prop where
  pw : ∀ p ∈ ps, PrdW p
  rc : ∀ v ∈ rs, Cn D B v.x
  D0 : 0 < D
  D1 : D < 2 ^ 1000
  B1 : B < 2 ^ 1000
  lp : ps.length < 800
  lr : rs.length < 400
theorem kr_nil {D B : Nat} : KrOk D B [] := fun _ h => by simp at h
theorem init_eq {D B : Nat} {ps : List Prd} {rs : List Riv} (h : InOk D B ps rs) :
    RM.mI_Market___init__ [.ins 0 [], .lst (ps.map prdD), .lst (rs.map rivD)] = (match mkInit ps rs with | .ok (sp, r) => .ok .non (mk0 (sp.map prdD) (kvD r)) | .error e => .exc e .non) := by
  have lp := h.lp
  have ck := check_eq (x := .ins 0 []) ps h.pw (by omega)
  have nn : noName "_check_products" (.ins 0 []) = true := rfl
  have kk : kindOk (.i 0 .nil) (.ins 0 []) = true := rfl
  show mDefI 9 RM.bI_Market___init__ [.ins 0 [], .lst (ps.map prdD), .lst (rs.map rivD)] = _
  cases hc : (if 1 ≤ ps.length ∧ ps.length ≤ 6 then chkP [] ps else some .market) with
  | some e =>
    rw [hc] at ck
    have e1 : mkInit ps rs = .error e := by unfold mkInit; rw [hc]
    rw [e1]
    refine mDefI_exc (σ := [.ins 0 [], .lst (ps.map prdD), .lst (rs.map rivD), .non, .non, .non, .non, .non, .non, .non, .non, .non]) ?_
    show RM.bI_Market___init__ [.ins 0 [], .lst (ps.map prdD), .lst (rs.map rivD), .non, .non, .non, .non, .non, .non, .non, .non, .non] = _
    unfold RM.bI_Market___init__
    simp [nn, kk, ck]
  | none =>
    rw [hc] at ck
    have lq : (1 ≤ ps.length ∧ ps.length ≤ 6) ∧ chkP [] ps = none := by
      split at hc
      · exact ⟨by assumption, hc⟩
      · cases hc
    have nd := (chkP_nodup ps [] lq.2).2
    have so := sorted_prd lq.1.1 (by omega) nd
    have sl : (sortPr ps).length = ps.length := (sortPr_perm ps).length_eq
    obtain ⟨ρ1, rl⟩ := riv_loop (ps := sortPr ps) (y := .lst (rs.map rivD)) (by omega) h.D0 h.D1 h.B1 rs [] kr_nil h.rc (by have := h.lr; simp; omega)
    have f1 : ∀ ρ : List MR.D, mFldNew 0 0 "products" .d (mCB fSorted (mCons (mVar 1) mNil)) (.ins 0 [] :: .lst (ps.map prdD) :: ρ) = .nx (.ins 0 [("products", .lst ((sortPr ps).map prdD))] :: .lst (ps.map prdD) :: ρ) := fun ρ => by
      unfold mFldNew
      simp [so]
    have f2 : ∀ ρ : List MR.D, mFldNew 0 0 "_crosses" .dt (mC (.dT [])) (.ins 0 [("products", .lst ((sortPr ps).map prdD))] :: ρ) = .nx (mk0 ((sortPr ps).map prdD) (kvD []) :: ρ) := fun ρ => by
      have hq : ((Str.ofString "_crosses") == (Str.ofString "products")) = false := by decide +kernel
      unfold mFldNew
      simp [List.lookup, hq, kindOk]
      rfl
    have pre : RM.bI_Market___init__ [.ins 0 [], .lst (ps.map prdD), .lst (rs.map rivD), .non, .non, .non, .non, .non, .non, .non, .non, .non] =
        (forL gRiv RM.bI_Market___init___L0 (rs.map rivD) [mk0 ((sortPr ps).map prdD) (kvD []), .non, .lst (rs.map rivD), .non, .non, .non, .non, .non, .non, .non, .non, .non]).andThen
        (mKeep0 [.s 0 shM, .x, .x, .x, .x, .x, .x, .x, .x, .x, .x, .x] (mFor (mItL (mKidD 0 shM "products" 0)) gPrd2 RM.bI_Market___init___L1)) := by
      unfold RM.bI_Market___init__
      simp [nn, kk, ck, f1, f2]
    cases ha : addAll ((sortPr ps).map (·.nm)) [] rs with
    | error e =>
      rw [ha] at rl
      have e1 : mkInit ps rs = .error e := by unfold mkInit; rw [hc]; simp only [ha]
      rw [e1]
      refine mDefI_exc (σ := ρ1) ?_
      show RM.bI_Market___init__ [.ins 0 [], .lst (ps.map prdD), .lst (rs.map rivD), .non, .non, .non, .non, .non, .non, .non, .non, .non] = _
      rw [pre, rl]
      rfl
    | ok r =>
      rw [ha] at rl
      have kr := addAll_ok rs kr_nil h.rc ha
      have e1 : mkInit ps rs = if ∀ p ∈ sortPr ps, totR r p.nm ((sortPr ps).map (·.nm)) < p.o then .ok (sortPr ps, r) else .error .market := by unfold mkInit; rw [hc]; simp only [ha]
      have kp2 := kid_products (P := (sortPr ps).map prdD) (kv := kvD r)
      have fin : RM.bI_Market___init__ [.ins 0 [], .lst (ps.map prdD), .lst (rs.map rivD), .non, .non, .non, .non, .non, .non, .non, .non, .non] =
          forL gPrd2 RM.bI_Market___init___L1 ((sortPr ps).map prdD) [mk0 ((sortPr ps).map prdD) (kvD r), .non, .non, .non, .non, .non, .non, .non, .non, .non, .non, .non] := by
        rw [pre, rl]
        simp [kp2]
      rcases own_loop (ps := sortPr ps) kr h.D0 h.D1 h.B1 (by omega) (sortPr ps) (fun p hp => (h.pw p ((sortPr_perm ps).mem_iff.mp hp)).wo) with ⟨a, ρ, b⟩ | ⟨a, ρ, b⟩
      · rw [e1, if_pos a]
        refine mDefI_nx (σ := mk0 ((sortPr ps).map prdD) (kvD r) :: ρ) ?_
        show RM.bI_Market___init__ [.ins 0 [], .lst (ps.map prdD), .lst (rs.map rivD), .non, .non, .non, .non, .non, .non, .non, .non, .non] = _
        rw [fin, b]
      · rw [e1, if_neg a]
        refine mDefI_exc (σ := ρ) ?_
        show RM.bI_Market___init__ [.ins 0 [], .lst (ps.map prdD), .lst (rs.map rivD), .non, .non, .non, .non, .non, .non, .non, .non, .non] = _
        rw [fin, b]
end MR

set_option Elab.async false
set_option linter.all false
set_option maxRecDepth 100000
set_option maxHeartbeats 1000000
/-! PL: the drawn names. -/
namespace MR
open PySem L2
def txt (l : List Nat) : Str := ⟨l.toArray⟩
theorem txt_app {a b : List Nat} : txt a ++ txt b = txt (a ++ b) := by
  show Str.append (txt a) (txt b) = _
  unfold Str.append txt
  simp
theorem txt_len {l : List Nat} : (txt l).length = l.length := by simp [txt, Str.length]
theorem txt_inj {a b : List Nat} (h : txt a = txt b) : a = b := by
  unfold txt at h
  simpa using h
theorem txt_of (s : Str) : txt s.cps.toList = s := by
  unfold txt
  simp
theorem abc_list : abc.cps.toList = (List.range 26).map (97 + ·) := by decide +kernel
theorem atI_nat {α : Type} {xs : List α} {n : Nat} (h : n < xs.length) : atI xs (n : Int) = some xs[n] := by
  unfold atI ixN
  simp [h]
theorem abc_at {i : Int} (h0 : 0 ≤ i) (h1 : i < 26) : fIx (.str abc) (.int i) = some (.str (txt [97 + i.toNat])) := by
  obtain ⟨n, rfl⟩ := Int.eq_ofNat_of_zero_le h0
  have e : fIx (.str abc) (.int (n : Int)) = if abc.length ≤ sizeLine then (atI abc.cps.toList (n : Int)).map fun c => D.str ⟨#[c]⟩ else none := rfl
  have l : abc.length ≤ sizeLine := by decide +kernel
  rw [e, if_pos l, abc_list, atI_nat (by simp; omega)]
  simp [txt]
def bsN (c : Int) (k : Nat) : List Nat := (List.range k).map fun (j : Nat) => 97 + ((c.fdiv (12 + (j : Int)) + 5 * (j : Int)).fmod 26).toNat
theorem bsN_succ {c : Int} {k : Nat} : bsN c (k + 1) = bsN c k ++ [97 + ((c.fdiv (12 + (k : Int)) + 5 * (k : Int)).fmod 26).toNat] := by
  unfold bsN
  rw [List.range_succ, List.map_append]
  rfl
theorem bsN_len {c : Int} {k : Nat} : (bsN c k).length = k := by simp [bsN]
theorem f26 (i : Int) : 0 ≤ i.fmod 26 ∧ i.fmod 26 < 26 := fmod_lt (by decide)
theorem small_div {c j : Int} (h : j ≠ 0) (hj : j.natAbs < 2 ^ 30) : CDivX c j := divx h hj
def lenN (c : Int) : Nat := (c.fmod 12).toNat
def atN (c : Int) : Nat := ((c.fdiv 7).fmod ((lenN c : Int) + 1)).toNat
def stN (c : Int) : Int := (c.fdiv 100).fmod 26
def wordN (c : Int) (k : Nat) : List Nat := (bsN c (lenN c)).take (atN c) ++ [97 + ((stN c + 4 * (k : Int)).fmod 26).toNat] ++ (bsN c (lenN c)).drop (atN c)
def wordsL (c : Int) : List Str := sortS ((List.range 6).map fun k => txt (wordN c k))
theorem cut_to {l : List Nat} {n : Nat} : cutS (txt l) none (some (n : Int)) = txt (l.take n) := by
  unfold cutS
  rw [HT.sIx_none, HT.sIx_nat, txt_len]
  simp only [List.drop_zero, Nat.sub_zero, txt]
  congr 2
  by_cases h : n ≤ l.length
  · rw [Nat.min_eq_left h]
  · rw [Nat.min_eq_right (by omega), List.take_of_length_le (by simp), List.take_of_length_le (by omega)]
theorem cut_from {l : List Nat} {n : Nat} (h : n ≤ l.length) : cutS (txt l) (some (n : Int)) none = txt (l.drop n) := by
  unfold cutS
  rw [HT.sIx_none, HT.sIx_nat, txt_len, Nat.min_eq_left h]
  simp only [txt]
  congr 1
  rw [List.take_of_length_le (by simp)]
theorem lenN_lt (c : Int) : lenN c < 12 := by have := fmod_lt (i := c) (j := 12) (by decide); unfold lenN; omega
theorem atN_le (c : Int) : atN c ≤ lenN c := by
  have := fmod_lt (i := c.fdiv 7) (j := (lenN c : Int) + 1) (by omega)
  unfold atN
  omega
theorem sorted_strs {xs : List Str} (h : xs.length < 64) : fSorted [.lst (xs.map D.str)] = some (.lst ((sortS xs).map .str)) := by
  simp [fSorted, fSortS, strsOf_map, h]
theorem words_eq (c : Int) : RM.m__law_words [.int c] = .ok (.lst ((wordsL c).map .str)) := by
  have ln := lenN_lt c
  have al := atN_le c
  have f12 := fmod_lt (i := c) (j := 12) (by decide)
  have c1 : -1000000 ≤ c.fmod 12 := by omega
  have c2 : c.fmod 12 ≤ 1000000 := by omega
  have eb : (c.fmod 12).toNat = lenN c := rfl
  have go := forL_range (i := 3) (s1 := RM.b__law_words_L0) (fun k => [.int c, .str abc, .str (txt (bsN c k)), .non, .non, .non]) (lenN c) fun k hk => .inl (by
    have d := small_div (c := c) (j := 12 + (k : Int)) (by omega) (by have : (12 + (k : Int)).natAbs = 12 + k := by omega
                                                                      rw [this]; omega)
    have m := mulx (i := 5) (j := (k : Int)) (a := 3) (b := 30) (by decide) (by simp; omega)
    have f := f26 (c.fdiv (12 + (k : Int)) + 5 * (k : Int))
    have ix := abc_at f.1 f.2
    have sz : (txt (bsN c k)).length + (txt [97 + ((c.fdiv (12 + (k : Int)) + 5 * (k : Int)).fmod 26).toNat]).length ≤ sizeLine := by
      rw [txt_len, txt_len, bsN_len]
      show k + 1 ≤ sizeLine
      exact Nat.le_trans (show k + 1 ≤ 1000 by omega) (by decide)
    unfold RM.b__law_words_L0
    simp [d, m, modx, ix, sz, txt_app, bsN_succ])
  have el : (txt (bsN c (lenN c))).length = lenN c := by rw [txt_len, bsN_len]
  have a0 := fmod_lt (i := c.fdiv 7) (j := (lenN c : Int) + 1) (by omega)
  have ea : (c.fdiv 7).fmod ((lenN c : Int) + 1) = (atN c : Int) := by unfold atN; omega
  have lc : RM.b__law_words_C0 [.int c, .str abc, .str (txt (bsN c (lenN c))), .non, .int (atN c), .int (stN c)] = .ok (.lst ((List.range 6).map fun k => .str (txt (wordN c k)))) [.int c, .str abc, .str (txt (bsN c (lenN c))), .non, .int (atN c), .int (stN c)] := by
    unfold RM.b__law_words_C0
    simp
    refine lcR (i := 3) (n := 6) (fun k => .str (txt (wordN c k))) fun k hk => ?_
    have m := mulx (i := 4) (j := (k : Int)) (a := 3) (b := 30) (by decide) (by simp; omega)
    have f := f26 (stN c + 4 * (k : Int))
    have ix := abc_at f.1 f.2
    have s0 : (txt (bsN c (lenN c))).length ≤ sizeLine := by rw [el]; exact Nat.le_trans (show lenN c ≤ 1000 by omega) (by decide)
    have s1 : (txt ((bsN c (lenN c)).take (atN c))).length + (txt [97 + ((stN c + 4 * (k : Int)).fmod 26).toNat]).length ≤ sizeLine := by
      rw [txt_len, txt_len, List.length_take, bsN_len]
      exact Nat.le_trans (show min (atN c) (lenN c) + 1 ≤ 1000 by omega) (by decide)
    have s2 : (txt ((bsN c (lenN c)).take (atN c) ++ [97 + ((stN c + 4 * (k : Int)).fmod 26).toNat])).length + (txt ((bsN c (lenN c)).drop (atN c))).length ≤ sizeLine := by
      rw [txt_len, txt_len, List.length_append, List.length_take, List.length_drop, bsN_len]
      exact Nat.le_trans (show min (atN c) (lenN c) + 1 + (lenN c - atN c) ≤ 1000 by omega) (by decide)
    have cf := cut_from (l := bsN c (lenN c)) (n := atN c) (by rw [bsN_len]; exact al)
    unfold RM.b__law_words_C0e
    simp [s0, cut_to, cf, m, modx, ix, s1, txt_app, s2]
    unfold wordN
    simp
  unfold RM.m__law_words
  rw [mDef_eq]
  unfold RM.b__law_words
  have e0 : (Str.ofString "") = txt (bsN c 0) := by
    show Str.ofString "" = txt []
    decide +kernel
  have d7 := small_div (c := c) (j := 7) (by decide) (by decide)
  have d100 := small_div (c := c) (j := 100) (by decide) (by decide)
  have sl : lenN c ≤ sizeLine := Nat.le_trans (show lenN c ≤ 1000 by omega) (by decide)
  have st : (c.fdiv 100).fmod 26 = stN c := rfl
  have m1 : CModX (c.fdiv 7) ((lenN c : Int) + 1) := modx (by omega)
  rw [← e0] at go
  have so : fSorted [.lst ((List.range 6).map fun k => .str (txt (wordN c k)))] = some (.lst ((wordsL c).map .str)) := by
    have e : (List.range 6).map (fun k => D.str (txt (wordN c k))) = ((List.range 6).map fun k => txt (wordN c k)).map D.str := by rw [List.map_map]; rfl
    rw [e, sorted_strs (by simp)]
    rfl
  simp [modx, c1, c2, eb, go, d7, d100, sl, el, m1, ea, st, lc, so]
end MR

set_option Elab.async false
set_option linter.all false
set_option maxRecDepth 100000
set_option maxHeartbeats 1000000
/-! PN: the drawn names and owners: what they are. -/
namespace MR
open PySem L2
theorem mem_abc {i : Nat} (h : i < 26) : 97 + i ∈ abc.cps.toList := by
  rw [abc_list]
  exact List.mem_map.mpr ⟨i, List.mem_range.mpr h, rfl⟩
theorem bsN_abc {c : Int} {k : Nat} : ∀ x ∈ bsN c k, x ∈ abc.cps.toList := fun x hx => by
  obtain ⟨j, _, rfl⟩ := List.mem_map.mp hx
  have := f26 (c.fdiv (12 + (j : Int)) + 5 * (j : Int))
  exact mem_abc (by omega)
theorem wordN_abc {c : Int} {k : Nat} : ∀ x ∈ wordN c k, x ∈ abc.cps.toList := fun x hx => by
  unfold wordN at hx
  rcases List.mem_append.mp hx with h | h
  · rcases List.mem_append.mp h with h | h
    · exact bsN_abc x (List.mem_of_mem_take h)
    · rw [List.mem_singleton.mp h]
      have := f26 (stN c + 4 * (k : Int))
      exact mem_abc (by omega)
  · exact bsN_abc x (List.mem_of_mem_drop h)
theorem wordN_len {c : Int} {k : Nat} : (wordN c k).length = lenN c + 1 := by
  have := atN_le c
  unfold wordN
  rw [List.length_append, List.length_append, List.length_take, List.length_drop, bsN_len]
  simp
  omega
theorem wordN_nm (c : Int) (k : Nat) : isNm (txt (wordN c k)) = true := by
  have ln := lenN_lt c
  have a : ((txt (wordN c k)).cps.toList.all fun c => decide (c ∈ abc.cps.toList)) = true := by
    rw [List.all_eq_true]
    intro x hx
    exact decide_eq_true (wordN_abc x (by simpa [txt] using hx))
  unfold isNm
  rw [a, txt_len, wordN_len]
  have h1 : (1 : Int) ≤ ((lenN c + 1 : Nat) : Int) := by omega
  have h2 : ((lenN c + 1 : Nat) : Int) ≤ 12 := by omega
  simp
  omega
theorem wordN_inj {c : Int} {j k : Nat} (hj : j < 6) (hk : k < 6) (h : wordN c j = wordN c k) : j = k := by
  unfold wordN at h
  have h2 := (List.append_inj' h rfl).1
  have h3 := (List.append_inj' h2 rfl).2
  have e : ((stN c + 4 * (j : Int)).fmod 26).toNat = ((stN c + 4 * (k : Int)).fmod 26).toNat := by simpa using h3
  have f1 := f26 (stN c + 4 * (j : Int))
  have f2 := f26 (stN c + 4 * (k : Int))
  have e2 : (stN c + 4 * (j : Int)).fmod 26 = (stN c + 4 * (k : Int)).fmod 26 := by omega
  rw [Int.fmod_eq_emod_of_nonneg _ (by decide), Int.fmod_eq_emod_of_nonneg _ (by decide)] at e2
  omega
theorem nodup_rng {α : Type} {n : Nat} {f : Nat → α} (h : ∀ i j, i < n → j < n → f i = f j → i = j) : ((List.range n).map f).Nodup := by
  rw [List.Nodup, List.pairwise_map]
  refine List.Pairwise.imp_of_mem ?_ (List.nodup_range (n := n))
  intro a b ha hb hab e
  exact hab (h a b (List.mem_range.mp ha) (List.mem_range.mp hb) e)
theorem sortB_id {α : Type} {lt : α → α → Bool} : ∀ {l : List α}, l.Pairwise (fun a b => lt b a = false) → sortB lt l = l
  | [], _ => rfl
  | x :: xs, h => by
    obtain ⟨h1, h2⟩ := List.pairwise_cons.mp h
    unfold sortB
    rw [sortB_id h2]
    match xs, h1 with
    | [], _ => rfl
    | y :: ys, h1 =>
      unfold insB
      rw [h1 y List.mem_cons_self]
      rfl
theorem wordsL_len (c : Int) : (wordsL c).length = 6 := by
  unfold wordsL sortS
  rw [(sortB_perm (lt := ltS) _).length_eq]
  simp
theorem wordsL_mem {c : Int} {s : Str} (h : s ∈ wordsL c) : ∃ k, k < 6 ∧ s = txt (wordN c k) := by
  unfold wordsL sortS at h
  have := (sortB_perm (lt := ltS) _).mem_iff.mp h
  obtain ⟨k, hk, e⟩ := List.mem_map.mp this
  exact ⟨k, List.mem_range.mp hk, e.symm⟩
theorem wordsL_nodup (c : Int) : (wordsL c).Nodup := by
  unfold wordsL sortS
  exact (sortB_perm (lt := ltS) _).nodup_iff.mpr (nodup_rng fun i j hi hj e => wordN_inj hi hj (txt_inj e))
theorem rise_of {l : List Str} (h : l.Pairwise fun a b => ltS b a = false) (n : l.Nodup) : l.Pairwise fun a b => ltS a b = true := by
  refine (h.and n).imp ?_
  rintro a b ⟨h1, h2⟩
  cases q : ltS a b with
  | true => rfl
  | false => exact absurd (ltS_anti q h1) h2
theorem wordsL_rise (c : Int) : (wordsL c).Pairwise fun a b => ltS a b = true := rise_of (sortS_sorted _) (wordsL_nodup c)
theorem wordsL_nm {c : Int} {s : Str} (h : s ∈ wordsL c) : isNm s = true := by
  obtain ⟨k, _, rfl⟩ := wordsL_mem h
  exact wordN_nm c k
theorem nm_len {s : Str} (h : isNm s = true) : s.length ≤ sizeLine := by
  unfold isNm at h
  simp only [Bool.and_eq_true, decide_eq_true_eq] at h
  exact Nat.le_trans (show s.length ≤ 12 by omega) (by decide)
/-! ### cells -/
def cellR (ns : List Int) (k : Nat) : Int := ns.getD k (11 * k + 5)
theorem cellR_eq (ns : List Int) (k : Nat) (hk : k ≤ 1000) : RM.m__law_cell [.scr ns, .int k] = .ok (.int (cellR ns k)) := by
  have m := mulx (i := 11) (j := (k : Int)) (a := 4) (b := 30) (by decide) (by simp; omega)
  unfold RM.m__law_cell
  rw [mDef_eq]
  unfold RM.b__law_cell cellR
  by_cases h : k < ns.length
  · have h' : (k : Int) < ns.length := by omega
    have e : atI ns (k : Int) = some ns[k] := atI_nat h
    simp [h', e, List.getD_eq_getElem?_getD, h]
  · have h' : ¬ (k : Int) < ns.length := by omega
    simp [h', m, List.getD_eq_getElem?_getD, List.getElem?_eq_none (show ns.length ≤ k by omega)]
def nN (ns : List Int) : Nat := 1 + ((cellR ns 0).fmod 6).toNat
def nmL (ns : List Int) : List Str := (wordsL (cellR ns 30)).take (nN ns)
def owL (ns : List Int) : List Str := (wordsL (cellR ns 31)).take 4
theorem nN_le (ns : List Int) : 1 ≤ nN ns ∧ nN ns ≤ 6 := by
  have := fmod_lt (i := cellR ns 0) (j := 6) (by decide)
  unfold nN
  omega
theorem nmL_len (ns : List Int) : (nmL ns).length = nN ns := by
  have := nN_le ns
  unfold nmL
  rw [List.length_take, wordsL_len]
  omega
theorem owL_len (ns : List Int) : (owL ns).length = 4 := by
  unfold owL
  rw [List.length_take, wordsL_len]
  rfl
theorem nmL_rise (ns : List Int) : (nmL ns).Pairwise fun a b => ltS a b = true := (wordsL_rise _).sublist (List.take_sublist _ _)
theorem nmL_nm {ns : List Int} {s : Str} (h : s ∈ nmL ns) : isNm s = true := wordsL_nm (List.mem_of_mem_take h)
theorem owL_nm {ns : List Int} {s : Str} (h : s ∈ owL ns) : isNm s = true := wordsL_nm (List.mem_of_mem_take h)
theorem nmL_nodup (ns : List Int) : (nmL ns).Nodup := (wordsL_nodup _).sublist (List.take_sublist _ _)
theorem names_drawn (ns : List Int) : RM.m__law_names [.scr ns] = .ok (.lst ((nmL ns).map .str)) := by
  have c30 := cellR_eq ns 30 (by decide)
  have c0 := cellR_eq ns 0 (by decide)
  have w := words_eq (cellR ns 30)
  have f := fmod_lt (i := cellR ns 0) (j := 6) (by decide)
  have e : 1 + (cellR ns 0).fmod 6 = ((nN ns : Nat) : Int) := by unfold nN; omega
  unfold RM.m__law_names
  rw [mDef_eq]
  unfold RM.b__law_names
  have c30' : RM.m__law_cell [.scr ns, .int 30] = _ := c30
  have c0' : RM.m__law_cell [.scr ns, .int 0] = _ := c0
  simp [c30', c0', w, modx, e, cutD_to]
  rw [← List.map_take]
  rfl
theorem owners_drawn (ns : List Int) : RM.m__law_owners [.scr ns] = .ok (.lst ((owL ns).map .str)) := by
  have c31 : RM.m__law_cell [.scr ns, .int 31] = _ := cellR_eq ns 31 (by decide)
  have w := words_eq (cellR ns 31)
  have e : cutD ((wordsL (cellR ns 31)).map D.str) none (some 4) = ((wordsL (cellR ns 31)).map D.str).take 4 := cutD_to (k := 4)
  unfold RM.m__law_owners
  rw [mDef_eq]
  unfold RM.b__law_owners
  simp [c31, w, e]
  rw [← List.map_take]
  rfl
end MR

set_option Elab.async false
set_option linter.all false
set_option maxRecDepth 100000
set_option maxHeartbeats 1000000
/-! PO: the drawn rivalries and products. -/
namespace MR
open PySem L2
def stA (l : List Str) (i : Nat) : Str := l.getD i Str.empty
theorem stA_lt {l : List Str} {i : Nat} (h : i < l.length) : stA l i = l[i] := by
  unfold stA
  rw [List.getD_eq_getElem?_getD, List.getElem?_eq_getElem h]
  rfl
theorem ix_strs {l : List Str} {i : Nat} (h : i < l.length) : atI (l.map D.str) (i : Int) = some (.str (stA l i)) := by
  rw [atI_map h, stA_lt h]
/-- the cell of a pair -/
def rvC (ns : List Int) (a b : Nat) : Int := (cellR ns (1 + a)).fdiv (1 + 3 * (b : Int))
def rvX (ns : List Int) (a b : Nat) : Rat := Rat.divInt (1 + ((rvC ns a b).fdiv 3).fmod 6) (1 + ((rvC ns a b).fdiv 18).fmod 3)
def rv1 (ns : List Int) (a b : Nat) : List Riv := if (rvC ns a b).fmod 3 = 0 then [] else [⟨stA (nmL ns) a, stA (nmL ns) b, rvX ns a b⟩]
def rvRow (ns : List Int) (a k : Nat) : List Riv := (List.range k).flatMap fun i => rv1 ns a (a + 1 + i)
def rvTo (ns : List Int) (k : Nat) : List Riv := (List.range k).flatMap fun a => rvRow ns a (nN ns - (a + 1))
def rvs (ns : List Int) : List Riv := rvTo ns (nN ns)
theorem rvRow_succ {ns : List Int} {a k : Nat} : rvRow ns a (k + 1) = rvRow ns a k ++ rv1 ns a (a + 1 + k) := by
  unfold rvRow
  rw [List.range_succ, List.flatMap_append]
  simp
theorem rvTo_succ {ns : List Int} {k : Nat} : rvTo ns (k + 1) = rvTo ns k ++ rvRow ns k (nN ns - (k + 1)) := by
  unfold rvTo
  rw [List.range_succ, List.flatMap_append]
  simp
theorem rv1_len {ns : List Int} {a b : Nat} : (rv1 ns a b).length ≤ 1 := by unfold rv1; split <;> simp
theorem rvRow_len {ns : List Int} {a : Nat} : ∀ {k : Nat}, (rvRow ns a k).length ≤ k
  | 0 => by simp [rvRow]
  | k + 1 => by
    rw [rvRow_succ, List.length_append]
    have := rvRow_len (ns := ns) (a := a) (k := k)
    have := rv1_len (ns := ns) (a := a) (b := a + 1 + k)
    omega
theorem rvTo_len {ns : List Int} : ∀ {k : Nat}, (rvTo ns k).length ≤ k * 6
  | 0 => by simp [rvTo]
  | k + 1 => by
    rw [rvTo_succ, List.length_append]
    have := rvTo_len (ns := ns) (k := k)
    have := rvRow_len (ns := ns) (a := k) (k := nN ns - (k + 1))
    have := nN_le ns
    omega
theorem rv_turn {ns : List Int} {a b : Nat} {M : List Riv} (ha : a < nN ns) (bl : b < nN ns) (ll : M.length < 1000000) :
    RM.b__law_rivalries_L1 [.scr ns, .lst ((nmL ns).map .str), .lst (M.map rivD), .int a, .int b, .non] = .nx [.scr ns, .lst ((nmL ns).map .str), .lst ((M ++ rv1 ns a b).map rivD), .int a, .non, .non] := by
  obtain ⟨n1, n6⟩ := nN_le ns
  have nl := nmL_len ns
  have ea : 1 + (a : Int) = ((1 + a : Nat) : Int) := by omega
  have c := cellR_eq ns (1 + a) (by omega)
  have m := mulx (i := 3) (j := (b : Int)) (a := 3) (b := 30) (by decide) (by rw [Int.natAbs_natCast]; omega)
  have d1 := small_div (c := cellR ns (1 + a)) (j := 1 + 3 * (b : Int)) (by omega) (by omega)
  have er : (cellR ns (1 + a)).fdiv (1 + 3 * (b : Int)) = rvC ns a b := rfl
  have x1 := ix_strs (l := nmL ns) (i := a) (by omega)
  have x2 := ix_strs (l := nmL ns) (i := b) (by omega)
  have d3 := small_div (c := rvC ns a b) (j := 3) (by decide) (by decide)
  have d18 := small_div (c := rvC ns a b) (j := 18) (by decide) (by decide)
  have f3 := fmod_lt (i := (rvC ns a b).fdiv 18) (j := 3) (by decide)
  have ra := lratio_w (n := 1 + ((rvC ns a b).fdiv 3).fmod 6) (d := 1 + ((rvC ns a b).fdiv 18).fmod 3) (by omega) (le_pow (k := 10) (by omega) (by decide))
  unfold rv1
  unfold RM.b__law_rivalries_L1
  by_cases q : (rvC ns a b).fmod 3 = 0
  · rw [if_pos q]
    simp only [mSeq_eq, mAsg_eq, mOp_eq, mCall_eq, mCons_eq, mVar_eq, mC_eq, mNil_eq, List.getD_cons_zero, List.getD_cons_succ, op1_ok, op2_ok, fAdd_int, ea, rr_of_some, cons1_ok, cons2_ok, call_ok, List.append_nil, c, to_ok, fIntC_eq, m, if_true, d1, er, asg_ok, List.set, then_nx]
    simp [modx, q]
  · rw [if_neg q]
    simp only [mSeq_eq, mAsg_eq, mOp_eq, mCall_eq, mCons_eq, mVar_eq, mC_eq, mNil_eq, List.getD_cons_zero, List.getD_cons_succ, op1_ok, op2_ok, fAdd_int, ea, rr_of_some, cons1_ok, cons2_ok, call_ok, List.append_nil, c, to_ok, fIntC_eq, m, if_true, d1, er, asg_ok, List.set, then_nx]
    simp [modx, q, x1, x2, d3, d18, ra, ll, rivD, rvX]
theorem rv_inner {ns : List Int} (a : Nat) (ha : a < nN ns) (L : List Riv) (hL : L.length ≤ 100) : forL (bName 4) RM.b__law_rivalries_L1 (ilist (1 + (a : Int)) (nN ns - (a + 1)))
      [.scr ns, .lst ((nmL ns).map .str), .lst (L.map rivD), .int a, .non, .non] = .nx [.scr ns, .lst ((nmL ns).map .str), .lst ((L ++ rvRow ns a (nN ns - (a + 1))).map rivD), .int a, .non, .non] := by
  obtain ⟨n1, n6⟩ := nN_le ns
  have := forL_rng (g := bName 4) (s1 := RM.b__law_rivalries_L1) (f := fun i => .int (1 + (a : Int) + (i : Int))) (fun k => [.scr ns, .lst ((nmL ns).map .str), .lst ((L ++ rvRow ns a k).map rivD), .int a, .non, .non]) (nN ns - (a + 1)) fun k hk => by
    refine ⟨_, rfl, .inl ?_⟩
    have eb : 1 + (a : Int) + (k : Int) = ((a + 1 + k : Nat) : Int) := by omega
    have ll : (L ++ rvRow ns a k).length < 1000000 := by
      have := rvRow_len (ns := ns) (a := a) (k := k)
      rw [List.length_append]
      omega
    have bl : a + 1 + k < nN ns := by omega
    show RM.b__law_rivalries_L1 [.scr ns, .lst ((nmL ns).map .str), .lst ((L ++ rvRow ns a k).map rivD), .int a, .int (1 + (a : Int) + (k : Int)), .non] = _
    rw [eb, rvRow_succ, ← List.append_assoc]
    exact rv_turn ha bl ll
  simpa [rvRow, ilist] using this
theorem mRng2_ok {ma : MA} {ρ ρ1 : List D} {i j : Int} {n : Nat} (h : ma ρ = .ok [.int i, .int j] ρ1) (hr : -1000000 ≤ i ∧ i ≤ 1000000 ∧ -1000000 ≤ j ∧ j ≤ 1000000) (hn : (j - i).toNat = n) : mRng rng2 ma ρ = .ok (ilist i n) ρ1 := by
  rw [mRng_eq, h, args_ok, rng2_eq, if_pos hr, hn]
  rfl
theorem rv_step {ns : List Int} {k : Nat} (hk : k < nN ns) : RM.b__law_rivalries_L0 [.scr ns, .lst ((nmL ns).map .str), .lst ((rvTo ns k).map rivD), .int k, .non, .non] = .nx [.scr ns, .lst ((nmL ns).map .str), .lst ((rvTo ns (k + 1)).map rivD), .non, .non, .non] := by
  obtain ⟨n1, n6⟩ := nN_le ns
  have nl := nmL_len ns
  have l := rvTo_len (ns := ns) (k := k)
  have r := rv_inner k hk (rvTo ns k) (by omega)
  have e : (1 + (k : Int)) = (k : Int) + 1 := by omega
  rw [e] at r
  have e2 : ((nN ns : Int) - ((k : Int) + 1)).toNat = nN ns - (k + 1) := by omega
  have c1 : (-1000000 : Int) ≤ (k : Int) + 1 := by omega
  have c2 : (k : Int) + 1 ≤ 1000000 := by omega
  have c3 : (-1000000 : Int) ≤ (nN ns : Int) := by omega
  have c4 : (nN ns : Int) ≤ 1000000 := by omega
  have rg := mRng2_ok (ma := mCons (mOp fAdd (mVar 3) (mC (.int 1))) (mCons (mCB fLen (mCons (mVar 1) mNil)) mNil)) (ρ := [.scr ns, .lst ((nmL ns).map .str), .lst ((rvTo ns k).map rivD), .int k, .non, .non]) (ρ1 := [.scr ns, .lst ((nmL ns).map .str), .lst ((rvTo ns k).map rivD), .int k, .non, .non])
    (i := (k : Int) + 1) (j := (nN ns : Int)) (n := nN ns - (k + 1)) (by simp [nl]) ⟨c1, c2, c3, c4⟩ e2
  unfold RM.b__law_rivalries_L0
  rw [mKeep_eq, mFor_eq, rg, forIn_ok, r, rvTo_succ]
  rfl
theorem rvs_drawn (ns : List Int) : RM.m__law_rivalries [.scr ns] = .ok (.lst ((rvs ns).map rivD)) := by
  obtain ⟨n1, n6⟩ := nN_le ns
  have nl := nmL_len ns
  have nm := names_drawn ns
  have go := forL_range (i := 3) (s1 := RM.b__law_rivalries_L0) (fun k => [.scr ns, .lst ((nmL ns).map .str), .lst ((rvTo ns k).map rivD), .non, .non, .non]) (nN ns) fun k hk => .inl (rv_step hk)
  have c3 : (-1000000 : Int) ≤ (nN ns : Int) := by omega
  have c4 : (nN ns : Int) ≤ 1000000 := by omega
  have e0 : (rvTo ns 0).map rivD = [] := rfl
  rw [e0] at go
  unfold RM.m__law_rivalries
  rw [mDef_eq]
  unfold RM.b__law_rivalries
  have rg : rng1 [.int (nN ns)] = some (ilist 0 (nN ns)) := by rw [rng1_eq, if_pos ⟨c3, c4⟩, Int.toNat_natCast]
  simp [-rng1_eq, nm, nl, rg, go, rvs]
end MR

set_option Elab.async false
set_option linter.all false
set_option maxRecDepth 100000
set_option maxHeartbeats 1000000
/-! PP: the drawn products. -/
namespace MR
open PySem L2
theorem mRng1_ok {ma : MA} {ρ ρ1 : List D} {n : Nat} (h : ma ρ = .ok [.int (n : Int)] ρ1) (hr : n ≤ 1000) : mRng rng1 ma ρ = .ok (ilist 0 n) ρ1 := by
  have c1 : (-1000000 : Int) ≤ (n : Int) := by omega
  have c2 : (n : Int) ≤ 1000000 := by omega
  rw [mRng_eq, h, args_ok, rng1_eq, if_pos ⟨c1, c2⟩, Int.toNat_natCast]
  rfl
theorem three_six {d : Int} (h : 0 ≤ d) (h3 : d < 3) : (1 + d) ∣ ((6 : Nat) : Int) := by
  have : d = 0 ∨ d = 1 ∨ d = 2 := by omega
  rcases this with h | h | h <;> subst h <;> decide
theorem rvX_cn (ns : List Int) (a b : Nat) : Cn 6 36 (rvX ns a b) := by
  have f3 := fmod_lt (i := (rvC ns a b).fdiv 18) (j := 3) (by decide)
  have f6 := fmod_lt (i := (rvC ns a b).fdiv 3) (j := 6) (by decide)
  exact Cn.divInt (B := 6) (D := 6) (by omega) (three_six f3.1 f3.2) (by decide) (by omega)
theorem divInt_pos {n d : Int} (hn : 0 < n) (hd : 0 < d) : 0 < Rat.divInt n d := by
  rw [Rat.divInt_eq_div]
  have a : (0 : Rat) < (n : Rat) := by exact_mod_cast hn
  have b : (0 : Rat) < (d : Rat) := by exact_mod_cast hd
  rw [Rat.div_def]
  exact Rat.mul_pos a (Rat.inv_pos.mpr b)
theorem rvX_pos (ns : List Int) (a b : Nat) : 0 < rvX ns a b := by
  have f3 := fmod_lt (i := (rvC ns a b).fdiv 18) (j := 3) (by decide)
  have f6 := fmod_lt (i := (rvC ns a b).fdiv 3) (j := 6) (by decide)
  exact divInt_pos (by omega) (by omega)
theorem rvs_mem {ns : List Int} {v : Riv} (h : v ∈ rvs ns) : ∃ a b, a < b ∧ b < nN ns ∧ v = ⟨stA (nmL ns) a, stA (nmL ns) b, rvX ns a b⟩ := by
  unfold rvs rvTo at h
  obtain ⟨a, ha, h⟩ := List.mem_flatMap.mp h
  unfold rvRow at h
  obtain ⟨i, hi, h⟩ := List.mem_flatMap.mp h
  have := List.mem_range.mp ha
  have := List.mem_range.mp hi
  unfold rv1 at h
  split at h
  · simp at h
  · exact ⟨a, a + 1 + i, by omega, by omega, List.mem_singleton.mp h⟩
/-- the crosses of one name, together -/
def totV (s : Str) : List Riv → Rat
  | [] => 0
  | v :: vs => (if s = v.a ∨ s = v.b then v.x else 0) + totV s vs
theorem totV_cons {s : Str} {v : Riv} {vs : List Riv} : totV s (v :: vs) = (if s = v.a ∨ s = v.b then v.x else 0) + totV s vs := rfl
theorem totV_cn {D B : Nat} {s : Str} (D0 : 0 < D) : ∀ {vs : List Riv}, (∀ v ∈ vs, Cn D B v.x) → Cn D (vs.length * B) (totV s vs)
  | [], _ => .zero
  | v :: vs, h => by
    have ih := totV_cn (s := s) D0 (vs := vs) fun w hw => h w (List.mem_cons_of_mem _ hw)
    have a : Cn D B (if s = v.a ∨ s = v.b then v.x else 0) := by
      split
      · exact h v List.mem_cons_self
      · exact .zero
    rw [totV_cons, List.length_cons, Nat.add_mul, Nat.one_mul, Nat.add_comm]
    exact a.add ih D0
theorem fIn_two {s a b : Str} : fIn (.str s) (.tup [.str a, .str b]) = some (decide (s = a) || decide (s = b)) := by
  have e : fIn (.str s) (.tup [.str a, .str b]) = some (eqF (.str a) (.str s) || (eqF (.str b) (.str s) || false)) := rfl
  have h : ∀ a : Str, eqF (.str a) (.str s) = decide (s = a) := fun a => by
    show (a == s) = decide (s = a)
    by_cases q : s = a
    · rw [decide_eq_true q, q, beq_self_eq_true]
    · rw [decide_eq_false q]
      exact beq_eq_false_iff_ne.mpr fun z => q z.symm
  rw [e, h, h, Bool.or_false]
theorem wd6 {x : Rat} {B : Nat} (h : Cn 6 B x) (hB : B < 2 ^ 30) : Wd x := wd_small (k := 10) (l := 30) h (by decide) (by decide) hB
theorem tot_turns {ns : List Int} {nmd s : Str} {A : List MR.D} {P c : MR.D} {k : Nat} (hs : atI A (k : Int) = some (.str s)) : ∀ (vs : List Riv) (j : Nat) (t : Rat), (∀ v ∈ vs, Cn 6 36 v.x) → j + vs.length ≤ 1000 → Cn 6 (j * 36) t →
    forL (bTup 3 (bCons (bName 6) (bCons (bName 7) (bCons (bName 8) bNil)))) RM.b__law_products_L1 (vs.map rivD) [.scr ns, .lst A, P, .int k, c, rq t, .non, .non, .non, .non, .non, .non] = .nx [.scr ns, .lst A, P, .int k, c, rq (t + totV s vs), .non, .non, .non, .non, .non, .non]
  | [], j, t, _, _, _ => by simp [totV, Rat.add_zero]
  | v :: vs, j, t, h, hj, ht => by
    simp only [List.length_cons] at hj
    have hx := h v List.mem_cons_self
    have ad := ladd_w (wd6 ht (by omega)) (wd6 hx (by decide))
    have c2 : Cn 6 ((j + 1) * 36) (t + if s = v.a ∨ s = v.b then v.x else 0) := by
      rw [Nat.add_mul, Nat.one_mul]
      refine ht.add ?_ (by decide)
      split
      · exact hx
      · exact .zero
    have st : RM.b__law_products_L1 [.scr ns, .lst A, P, .int k, c, rq t, .str v.a, .str v.b, rq v.x, .non, .non, .non] = .nx [.scr ns, .lst A, P, .int k, c, rq (t + if s = v.a ∨ s = v.b then v.x else 0), .non, .non, .non, .non, .non, .non] := by
      unfold RM.b__law_products_L1
      by_cases q : s = v.a ∨ s = v.b
      · have q2 : (decide (s = v.a) || decide (s = v.b)) = true := by simpa using q
        rw [if_pos q]
        simp only [mIf_eq, mCmpT_eq, mOp_eq, mVar_eq, List.getD_cons_zero, List.getD_cons_succ, op1_ok, op2_ok, fIx_lst, hs, rr_of_some, mTup_eq, mCons_eq, mNil_eq, cons1_ok, cons2_ok, tup_ok, List.length_cons, List.length_nil, Nat.reduceLeDiff, if_true, fIn_two, q2, branch_t]
        simp [ad]
      · have q2 : (decide (s = v.a) || decide (s = v.b)) = false := by simpa using q
        rw [if_neg q, Rat.add_zero]
        simp only [mIf_eq, mCmpT_eq, mOp_eq, mVar_eq, List.getD_cons_zero, List.getD_cons_succ, op1_ok, op2_ok, fIx_lst, hs, rr_of_some, mTup_eq, mCons_eq, mNil_eq, cons1_ok, cons2_ok, tup_ok, List.length_cons, List.length_nil, Nat.reduceLeDiff, if_true, fIn_two, q2, branch_f]
        simp
    have ih := tot_turns (ns := ns) (nmd := nmd) (P := P) (c := c) hs vs (j + 1) _ (fun w hw => h w (List.mem_cons_of_mem _ hw)) (by omega) c2
    rw [List.map_cons, forL_cons]
    show Out.loop (RM.b__law_products_L1 [.scr ns, .lst A, P, .int k, c, rq t, .str v.a, .str v.b, rq v.x, .non, .non, .non]) _ = _
    rw [st, loop_nx, ih, totV_cons, Rat.add_assoc]
/-- the drawn products -/
def pdO (ns : List Int) (k : Nat) : Rat := Rat.divInt (1 + (cellR ns (6 + k)).fmod 5) (1 + ((cellR ns (6 + k)).fdiv 5).fmod 3)
def pdW (ns : List Int) (k : Nat) : Nat := (((cellR ns (6 + k)).fdiv 15).fmod 4).toNat
def pd (ns : List Int) (k : Nat) : Prd :=
  ⟨stA (nmL ns) k, stA (owL ns) (pdW ns k), Rat.divInt (20 + ((cellR ns (6 + k)).fdiv 7).fmod 90) (1 + ((cellR ns (6 + k)).fdiv 11).fmod 4), totV (stA (nmL ns) k) (rvs ns) + pdO ns k, Rat.divInt (((cellR ns (6 + k)).fdiv 60).fmod 9) (1 + ((cellR ns (6 + k)).fdiv 540).fmod 2)⟩
def pds (ns : List Int) : List Prd := (List.range (nN ns)).map (pd ns)
theorem rvs_len (ns : List Int) : (rvs ns).length ≤ 36 := by
  have := rvTo_len (ns := ns) (k := nN ns)
  have := nN_le ns
  unfold rvs
  omega
theorem pdO_cn (ns : List Int) (k : Nat) : Cn 6 30 (pdO ns k) ∧ 0 < pdO ns k := by
  have f3 := fmod_lt (i := (cellR ns (6 + k)).fdiv 5) (j := 3) (by decide)
  have f5 := fmod_lt (i := cellR ns (6 + k)) (j := 5) (by decide)
  exact ⟨Cn.divInt (B := 5) (D := 6) (by omega) (three_six f3.1 f3.2) (by decide) (by omega), divInt_pos (by omega) (by omega)⟩
theorem tot_cn (ns : List Int) (s : Str) : Cn 6 1296 (totV s (rvs ns)) := by
  have := totV_cn (D := 6) (B := 36) (s := s) (vs := rvs ns) (by decide) fun v hv => by
    obtain ⟨a, b, _, _, rfl⟩ := rvs_mem hv
    exact rvX_cn ns a b
  refine this.mono ?_
  have := rvs_len ns
  omega
theorem pd_turn {ns : List Int} {k : Nat} (hk : k < nN ns) : RM.b__law_products_L0 [.scr ns, .lst ((nmL ns).map .str), .lst (((List.range k).map (pd ns)).map prdD), .int k, .non, .non, .non, .non, .non, .non, .non, .non] =
    .nx [.scr ns, .lst ((nmL ns).map .str), .lst (((List.range (k + 1)).map (pd ns)).map prdD), .non, .non, .non, .non, .non, .non, .non, .non, .non] := by
  obtain ⟨n1, n6⟩ := nN_le ns
  have nl := nmL_len ns
  have ow := owners_drawn ns
  have rv := rvs_drawn ns
  have ea : 6 + (k : Int) = ((6 + k : Nat) : Int) := by omega
  have c := cellR_eq ns (6 + k) (by omega)
  have xs := ix_strs (l := nmL ns) (i := k) (by omega)
  have t := tot_turns (ns := ns) (nmd := Str.empty) (P := .lst (((List.range k).map (pd ns)).map prdD)) (c := .int (cellR ns (6 + k))) xs (rvs ns) 0 0 (fun v hv => by
    obtain ⟨a, b, _, _, rfl⟩ := rvs_mem hv
    exact rvX_cn ns a b) (by have := rvs_len ns; omega) .zero
  rw [Rat.zero_add] at t
  obtain ⟨po, _⟩ := pdO_cn ns k
  have ad := ladd_w (wd6 (tot_cn ns (stA (nmL ns) k)) (by decide)) (wd6 po (by decide))
  have e : (List.range (k + 1)).map (pd ns) = (List.range k).map (pd ns) ++ [pd ns k] := by rw [List.range_succ, List.map_append]; rfl
  rw [e, List.map_append]
  have ll : (((List.range k).map (pd ns)).map prdD).length < 1000000 := by simp; omega
  generalize ((List.range k).map (pd ns)).map prdD = M at t ll
  generalize hx : cellR ns (6 + k) = x at c t
  have f3 := fmod_lt (i := x.fdiv 5) (j := 3) (by decide)
  have f4 := fmod_lt (i := x.fdiv 11) (j := 4) (by decide)
  have f2 := fmod_lt (i := x.fdiv 540) (j := 2) (by decide)
  have fw := fmod_lt (i := x.fdiv 15) (j := 4) (by decide)
  have sm3 : ∀ {d m : Int}, 0 ≤ d → d < m → m < 100 → (1 + d).natAbs < 2 ^ 8900 := fun h1 h2 h3 => le_pow (k := 10) (by omega) (by decide)
  have r1 := lratio_w (n := 1 + x.fmod 5) (d := 1 + (x.fdiv 5).fmod 3) (by omega) (sm3 f3.1 f3.2 (by decide))
  have r2 := lratio_w (n := (x.fdiv 60).fmod 9) (d := 1 + (x.fdiv 540).fmod 2) (by omega) (sm3 f2.1 f2.2 (by decide))
  have r3 := lratio_w (n := 20 + (x.fdiv 7).fmod 90) (d := 1 + (x.fdiv 11).fmod 4) (by omega) (sm3 f4.1 f4.2 (by decide))
  have ew : (x.fdiv 15).fmod 4 = ((pdW ns k : Nat) : Int) := by unfold pdW; rw [hx]; omega
  have wl : pdW ns k < (owL ns).length := by rw [owL_len]; omega
  have xo := ix_strs wl
  have dd : ∀ j : Int, j ≠ 0 → j.natAbs < 2 ^ 30 → CDivX x j := fun j h1 h2 => small_div h1 h2
  have d5 := dd 5 (by decide) (by decide)
  have d15 := dd 15 (by decide) (by decide)
  have d60 := dd 60 (by decide) (by decide)
  have d540 := dd 540 (by decide) (by decide)
  have d7 := dd 7 (by decide) (by decide)
  have d11 := dd 11 (by decide) (by decide)
  have eo : pdO ns k = Rat.divInt (1 + x.fmod 5) (1 + (x.fdiv 5).fmod 3) := by unfold pdO; rw [hx]
  rw [eo] at ad
  have ep : prdD (pd ns k) = .tup [.str (stA (nmL ns) k), .str (stA (owL ns) (pdW ns k)), rq (Rat.divInt (20 + (x.fdiv 7).fmod 90) (1 + (x.fdiv 11).fmod 4)), rq (totV (stA (nmL ns) k) (rvs ns) + Rat.divInt (1 + x.fmod 5) (1 + (x.fdiv 5).fmod 3)), rq (Rat.divInt ((x.fdiv 60).fmod 9) (1 + (x.fdiv 540).fmod 2))] := by
    unfold prdD pd
    rw [eo, hx]
  rw [List.map_singleton, ep]
  unfold RM.b__law_products_L0
  simp only [mKeep_eq, mSeq_eq, mAsg_eq, mOp_eq, mCall_eq, mCons_eq, mVar_eq, mC_eq, mNil_eq, List.getD_cons_zero, List.getD_cons_succ, op1_ok, op2_ok, fAdd_int, ea, rr_of_some, cons1_ok, cons2_ok, call_ok, List.append_nil, c, to_ok, asg_ok, List.set, then_nx]
  simp [rq_zero, rv, t, modx, d5, r1, ad, ow, d15, ew, xo, d60, d540, r2, xs, d7, d11, r3, ll]
theorem products_drawn (ns : List Int) : RM.m__law_products [.scr ns] = .ok (.lst ((pds ns).map prdD)) := by
  obtain ⟨n1, n6⟩ := nN_le ns
  have nl := nmL_len ns
  have nm := names_drawn ns
  have go := forL_range (i := 3) (s1 := RM.b__law_products_L0) (fun k => [.scr ns, .lst ((nmL ns).map .str), .lst (((List.range k).map (pd ns)).map prdD), .non, .non, .non, .non, .non, .non, .non, .non, .non]) (nN ns) fun k hk => .inl (pd_turn hk)
  have e0 : ((List.range 0).map (pd ns)).map prdD = [] := rfl
  rw [e0] at go
  have rg := mRng1_ok (ma := mCons (mCB fLen (mCons (mVar 1) mNil)) mNil) (ρ := [.scr ns, .lst ((nmL ns).map .str), .lst [], .non, .non, .non, .non, .non, .non, .non, .non, .non]) (ρ1 := [.scr ns, .lst ((nmL ns).map .str), .lst [], .non, .non, .non, .non, .non, .non, .non, .non, .non]) (n := nN ns) (by simp [nl]) (by omega)
  unfold RM.m__law_products
  rw [mDef_eq]
  unfold RM.b__law_products
  simp [-mRng_eq, -rng1_eq, nm, rg, go, pds]
end MR

set_option Elab.async false
set_option linter.all false
set_option maxRecDepth 100000
set_option maxHeartbeats 1000000
/-! PT: rivalries that are each told once; their crosses and sums. -/
namespace MR
open PySem L2
theorem valR_putR {r : KR} {k k' : List Key} {x : Rat} : valR (putR r k x) k' = if k' = k then some x else valR r k' := by
  unfold putR
  split
  · rename_i h
    unfold valR
    rw [List.find?_map, Option.map_map]
    have e : ((fun kv : List Key × Rat => decide (kv.1 = k')) ∘ fun kv => if kv.1 = k then (kv.1, x) else kv) = fun kv : List Key × Rat => decide (kv.1 = k') := by
      funext kv
      show decide ((if kv.1 = k then (kv.1, x) else kv).1 = k') = decide (kv.1 = k')
      split <;> rfl
    rw [e]
    by_cases q : k' = k
    · rw [if_pos q, q]
      obtain ⟨kv, hm, hk⟩ := List.any_eq_true.mp h
      cases f : r.find? fun kv => decide (kv.1 = k) with
      | none =>
        have := List.find?_eq_none.mp f kv hm
        exact absurd hk this
      | some y =>
        have hy : y.1 = k := by simpa using List.find?_some f
        show some ((if y.1 = k then (y.1, x) else y).2) = _
        rw [if_pos hy]
    · rw [if_neg q]
      cases f : r.find? fun kv => decide (kv.1 = k') with
      | none => rfl
      | some y =>
        have hy : y.1 = k' := by simpa using List.find?_some f
        show some ((if y.1 = k then (y.1, x) else y).2) = some y.2
        rw [if_neg (by rw [hy]; exact q)]
  · rename_i h
    unfold valR
    rw [List.find?_append]
    by_cases q : k' = k
    · rw [if_pos q, q]
      have f : r.find? (fun kv => decide (kv.1 = k)) = none := by
        rw [List.find?_eq_none]
        intro y hy z
        exact h (List.any_eq_true.mpr ⟨y, hy, z⟩)
      rw [f]
      simp
    · rw [if_neg q]
      have f : [(k, x)].find? (fun kv => decide (kv.1 = k')) = none := by
        simp
        exact fun z => q z.symm
      rw [f]
      simp
theorem pair_inj {s t a b : Str} : pair s t = pair a b ↔ s = a ∧ t = b := by simp [pair]
def mt (s t : Str) (v : Riv) : Bool := decide ((v.a = s ∧ v.b = t) ∨ (v.b = s ∧ v.a = t))
theorem mt_iff {s t : Str} {v : Riv} : mt s t v = true ↔ (v.a = s ∧ v.b = t) ∨ (v.b = s ∧ v.a = t) := decide_eq_true_iff
theorem mt_sym {s t : Str} {v : Riv} : mt s t v = mt t s v := by
  rw [Bool.eq_iff_iff, mt_iff, mt_iff]
  constructor
  · rintro (⟨a, b⟩ | ⟨a, b⟩)
    · exact .inr ⟨b, a⟩
    · exact .inl ⟨b, a⟩
  · rintro (⟨a, b⟩ | ⟨a, b⟩)
    · exact .inr ⟨b, a⟩
    · exact .inl ⟨b, a⟩
theorem mt_both {s t : Str} {v w : Riv} (h1 : mt s t v = true) (h2 : mt s t w = true) : mt w.a w.b v = true := by
  rw [mt_iff] at *
  rcases h1 with ⟨a, b⟩ | ⟨a, b⟩ <;> rcases h2 with ⟨c, d⟩ | ⟨c, d⟩
  · exact .inl ⟨by rw [a, c], by rw [b, d]⟩
  · exact .inr ⟨by rw [b, d], by rw [a, c]⟩
  · exact .inr ⟨by rw [a, c], by rw [b, d]⟩
  · exact .inl ⟨by rw [b, d], by rw [a, c]⟩
/-- each pair once -/
def Once (vs : List Riv) : Prop := vs.Pairwise fun v w => mt w.a w.b v = false
theorem once_find {v : Riv} {vs : List Riv} (h : ∀ w ∈ vs, mt w.a w.b v = false) {s t : Str} (hm : mt s t v = true) : vs.find? (mt s t) = none := by
  rw [List.find?_eq_none]
  intro w hw z
  have := mt_both hm z
  rw [h w hw] at this
  cases this
structure RvOk (ns : List Str) (v : Riv) : Prop where
  ha : v.a ∈ ns
  hb : v.b ∈ ns
  ne : v.a ≠ v.b
  pos : 0 < v.x
theorem addAll_once {ns : List Str} : ∀ (vs : List Riv) (r : KR), (∀ v ∈ vs, RvOk ns v) → Once vs → (∀ v ∈ vs, valR r (pair v.a v.b) = none) →
    ∃ r', addAll ns r vs = .ok r' ∧ ∀ s t, valR r' (pair s t) = match vs.find? (mt s t) with | some v => some v.x | none => valR r (pair s t)
  | [], r, _, _, _ => ⟨r, rfl, fun _ _ => rfl⟩
  | v :: vs, r, h, ho, hf => by
    obtain ⟨o1, o2⟩ := List.pairwise_cons.mp ho
    have hv := h v List.mem_cons_self
    have e : addR ns r v = .ok (putR (putR r (pair v.a v.b) v.x) (pair v.b v.a) v.x) := by
      unfold addR
      rw [if_pos ⟨hv.ha, hv.hb⟩, if_neg (by rintro (z | z); exact hv.ne z; exact z hv.pos), if_neg (by rw [hf v List.mem_cons_self]; simp)]
    have ev : ∀ s t, valR (putR (putR r (pair v.a v.b) v.x) (pair v.b v.a) v.x) (pair s t) = if mt s t v = true then some v.x else valR r (pair s t) := fun s t => by
      rw [valR_putR, valR_putR]
      by_cases q1 : pair s t = pair v.b v.a
      · rw [if_pos q1]
        obtain ⟨a, b⟩ := pair_inj.mp q1
        rw [if_pos (mt_iff.mpr (.inr ⟨a.symm, b.symm⟩))]
      · rw [if_neg q1]
        by_cases q2 : pair s t = pair v.a v.b
        · rw [if_pos q2]
          obtain ⟨a, b⟩ := pair_inj.mp q2
          rw [if_pos (mt_iff.mpr (.inl ⟨a.symm, b.symm⟩))]
        · rw [if_neg q2, if_neg]
          intro z
          rcases mt_iff.mp z with ⟨a, b⟩ | ⟨a, b⟩
          · exact q2 (pair_inj.mpr ⟨a.symm, b.symm⟩)
          · exact q1 (pair_inj.mpr ⟨a.symm, b.symm⟩)
    obtain ⟨r', h1, h2⟩ := addAll_once vs (putR (putR r (pair v.a v.b) v.x) (pair v.b v.a) v.x) (fun w hw => h w (List.mem_cons_of_mem _ hw)) o2 (fun w hw => by
      rw [ev, o1 w hw]
      simp
      exact hf w (List.mem_cons_of_mem _ hw))
    refine ⟨r', ?_, fun s t => ?_⟩
    · unfold addAll
      rw [e]
      exact h1
    · rw [h2]
      by_cases q : mt s t v = true
      · rw [once_find o1 q, List.find?_cons_of_pos q, ev, if_pos q]
      · rw [List.find?_cons_of_neg q]
        cases vs.find? (mt s t) with
        | some w => rfl
        | none => rw [ev, if_neg q]
/-- the cross of two names -/
def crV (vs : List Riv) (s t : Str) : Rat := ((vs.find? (mt s t)).map (·.x)).getD 0
theorem crV_sym {vs : List Riv} {s t : Str} : crV vs s t = crV vs t s := by
  unfold crV
  have : mt s t = mt t s := funext fun v => mt_sym
  rw [this]
theorem crV_cons {v : Riv} {vs : List Riv} (o : ∀ w ∈ vs, mt w.a w.b v = false) {s t : Str} : crV (v :: vs) s t = (if mt s t v = true then v.x else 0) + crV vs s t := by
  unfold crV
  by_cases q : mt s t v = true
  · rw [List.find?_cons_of_pos q, once_find o q, if_pos q]
    exact (Rat.add_zero _).symm
  · rw [List.find?_cons_of_neg q, if_neg q, Rat.zero_add]
theorem crV_mem {vs : List Riv} {s t : Str} : crV vs s t = 0 ∨ ∃ v ∈ vs, mt s t v = true ∧ crV vs s t = v.x := by
  unfold crV
  cases e : vs.find? (mt s t) with
  | none => exact .inl rfl
  | some v => exact .inr ⟨v, List.mem_of_find?_eq_some e, List.find?_some e, rfl⟩
def sumT (f : Str → Rat) : List Str → Rat
  | [] => 0
  | t :: ts => f t + sumT f ts
theorem sumT_add {f g : Str → Rat} : ∀ ts, sumT (fun t => f t + g t) ts = sumT f ts + sumT g ts
  | [] => by simp [sumT, Rat.add_zero]
  | t :: ts => by
    have ih := sumT_add (f := f) (g := g) ts
    show f t + g t + sumT (fun t => f t + g t) ts = (f t + sumT f ts) + (g t + sumT g ts)
    rw [ih]
    grind
theorem sumT_none {f : Str → Rat} : ∀ ts, (∀ t ∈ ts, f t = 0) → sumT f ts = 0
  | [], _ => rfl
  | t :: ts, h => by
    show f t + sumT f ts = 0
    rw [h t List.mem_cons_self, sumT_none ts fun u hu => h u (List.mem_cons_of_mem _ hu), Rat.add_zero]
theorem sumT_one {u : Str} {x : Rat} {f : Str → Rat} (hf : f u = x) : ∀ ts : List Str, ts.Nodup → u ∈ ts → (∀ t ∈ ts, t ≠ u → f t = 0) → sumT f ts = x
  | [], _, h, _ => by simp at h
  | t :: ts, n, h, z => by
    obtain ⟨n1, n2⟩ := List.nodup_cons.mp n
    show f t + sumT f ts = x
    by_cases q : t = u
    · subst q
      rw [hf, sumT_none ts fun w hw => z w (List.mem_cons_of_mem _ hw) fun e => n1 (by rw [← e]; exact hw), Rat.add_zero]
    · have hu : u ∈ ts := by
        rcases List.mem_cons.mp h with y | y
        · exact absurd y.symm q
        · exact y
      rw [z t List.mem_cons_self q, Rat.zero_add]
      exact sumT_one hf ts n2 hu fun w hw => z w (List.mem_cons_of_mem _ hw)
theorem sum_cr {ns : List Str} (nd : ns.Nodup) {s : Str} : ∀ vs : List Riv, (∀ v ∈ vs, RvOk ns v) → Once vs → sumT (crV vs s) ns = totV s vs
  | [], _, _ => sumT_none ns fun _ _ => rfl
  | v :: vs, h, ho => by
    obtain ⟨o1, o2⟩ := List.pairwise_cons.mp ho
    have hv := h v List.mem_cons_self
    have e : crV (v :: vs) s = fun t => (if mt s t v = true then v.x else 0) + crV vs s t := funext fun t => crV_cons o1
    rw [e, sumT_add, sum_cr nd vs (fun w hw => h w (List.mem_cons_of_mem _ hw)) o2, totV_cons]
    congr 1
    by_cases q : s = v.a
    · rw [if_pos (.inl q)]
      refine sumT_one (u := v.b) (if_pos (mt_iff.mpr (.inl ⟨q.symm, rfl⟩))) ns nd hv.hb fun t _ ht => if_neg fun z => ?_
      rcases mt_iff.mp z with ⟨_, b⟩ | ⟨b, _⟩
      · exact ht b.symm
      · exact hv.ne (by rw [b, q])
    · by_cases q2 : s = v.b
      · rw [if_pos (.inr q2)]
        refine sumT_one (u := v.a) (if_pos (mt_iff.mpr (.inr ⟨q2.symm, rfl⟩))) ns nd hv.ha fun t _ ht => if_neg fun z => ?_
        rcases mt_iff.mp z with ⟨b, _⟩ | ⟨_, b⟩
        · exact q b.symm
        · exact ht b.symm
      · rw [if_neg (by rintro (z | z); exact q z; exact q2 z)]
        refine sumT_none ns fun t _ => if_neg fun z => ?_
        rcases mt_iff.mp z with ⟨b, _⟩ | ⟨b, _⟩
        · exact q b.symm
        · exact q2 b.symm
theorem totR_sum {r : KR} {vs : List Riv} {s : Str} (h : ∀ t, (valR r (pair s t)).getD 0 = crV vs s t) : ∀ ts, totR r s ts = sumT (crV vs s) ts
  | [] => rfl
  | t :: ts => by
    rw [totR_cons, h, totR_sum h ts]
    rfl
end MR

set_option Elab.async false
set_option linter.all false
set_option maxRecDepth 100000
set_option maxHeartbeats 1000000
/-! PU: the drawn market is made, and is as the laws need it. -/
namespace MR
open PySem L2
theorem list_stA (l : List Str) : (List.range l.length).map (stA l) = l := by
  refine List.ext_getElem (by simp) fun i h1 h2 => ?_
  simp
  exact stA_lt h2
theorem sumT_sum {f : Str → Rat} : ∀ l : List Str, sumT f l = (l.map f).sum
  | [] => rfl
  | t :: ts => by
    show f t + sumT f ts = _
    rw [sumT_sum ts, List.map_cons, List.sum_cons]
theorem sumT_sm {f : Str → Rat} {l : List Str} : sumT f l = sm l.length fun j => f (stA l j) := by
  rw [sumT_sum]
  unfold sm
  conv => lhs; rw [← list_stA l, List.map_map]
  rfl
theorem rise_at {l : List Str} (h : l.Pairwise fun a b => ltS a b = true) {i j : Nat} (hij : i < j) (hj : j < l.length) : ltS (stA l i) (stA l j) = true := by
  rw [stA_lt hj, stA_lt (show i < l.length by omega)]
  exact List.pairwise_iff_getElem.mp h i j (by omega) hj hij
theorem stA_inj {l : List Str} (h : l.Pairwise fun a b => ltS a b = true) {i j : Nat} (hi : i < l.length) (hj : j < l.length) (e : stA l i = stA l j) : i = j := by
  rcases Nat.lt_trichotomy i j with z | z | z
  · have := rise_at h z hj
    rw [e, ltS_irr] at this
    cases this
  · exact z
  · have := rise_at h z hi
    rw [e, ltS_irr] at this
    cases this
theorem stA_mem {l : List Str} {i : Nat} (h : i < l.length) : stA l i ∈ l := by
  rw [stA_lt h]
  exact List.getElem_mem h
section
variable {ns : List Int}
theorem nm_inj {i j : Nat} (hi : i < nN ns) (hj : j < nN ns) (e : stA (nmL ns) i = stA (nmL ns) j) : i = j := stA_inj (nmL_rise ns) (by rw [nmL_len]; exact hi) (by rw [nmL_len]; exact hj) e
theorem rvs_ok : ∀ v ∈ rvs ns, RvOk (nmL ns) v := fun v hv => by
  obtain ⟨a, b, h1, h2, rfl⟩ := rvs_mem hv
  refine ⟨stA_mem (by rw [nmL_len]; omega), stA_mem (by rw [nmL_len]; exact h2), fun e => ?_, rvX_pos ns a b⟩
  have := nm_inj (show a < nN ns by omega) h2 e
  omega
theorem mt_far {a b c d : Nat} (h1 : a < b) (h2 : b < nN ns) (h3 : c < d) (h4 : d < nN ns) (h : ¬ (a = c ∧ b = d)) {x y : Rat} : mt (stA (nmL ns) c) (stA (nmL ns) d) ⟨stA (nmL ns) a, stA (nmL ns) b, x⟩ = false := by
  refine decide_eq_false ?_
  rintro (⟨e1, e2⟩ | ⟨e1, e2⟩)
  · exact h ⟨nm_inj (by omega) (by omega) e1, nm_inj h2 h4 e2⟩
  · have := nm_inj h2 (by omega) e1
    have := nm_inj (by omega) h4 e2
    omega
theorem rv1_mem {a b : Nat} {v : Riv} (h : v ∈ rv1 ns a b) : v = ⟨stA (nmL ns) a, stA (nmL ns) b, rvX ns a b⟩ := by
  unfold rv1 at h
  split at h
  · simp at h
  · exact List.mem_singleton.mp h
theorem rv1_pw {a b : Nat} {R : Riv → Riv → Prop} : (rv1 ns a b).Pairwise R := by
  unfold rv1
  split
  · exact .nil
  · exact List.pairwise_singleton _ _
theorem rvs_once : Once (rvs ns) := by
  unfold Once rvs rvTo
  rw [List.pairwise_flatMap]
  refine ⟨fun a ha => ?_, ?_⟩
  · have ha := List.mem_range.mp ha
    unfold rvRow
    rw [List.pairwise_flatMap]
    refine ⟨fun i _ => rv1_pw, ?_⟩
    refine List.Pairwise.imp_of_mem ?_ (List.pairwise_lt_range (n := nN ns - (a + 1)))
    intro i j hi hj hij v hv w hw
    have hi := List.mem_range.mp hi
    have hj := List.mem_range.mp hj
    rw [rv1_mem hv, rv1_mem hw]
    exact mt_far (y := 0) (by omega) (by omega) (by omega) (by omega) (by omega)
  · refine List.Pairwise.imp_of_mem ?_ (List.pairwise_lt_range (n := nN ns))
    intro a c ha hc hac v hv w hw
    unfold rvRow at hv hw
    obtain ⟨i, hi, hv⟩ := List.mem_flatMap.mp hv
    obtain ⟨j, hj, hw⟩ := List.mem_flatMap.mp hw
    have ha := List.mem_range.mp ha
    have hc := List.mem_range.mp hc
    have hi := List.mem_range.mp hi
    have hj := List.mem_range.mp hj
    rw [rv1_mem hv, rv1_mem hw]
    exact mt_far (y := 0) (by omega) (by omega) (by omega) (by omega) (by omega)
theorem rvs_cn : ∀ v ∈ rvs ns, Cn 6 36 v.x := fun v hv => by
  obtain ⟨a, b, _, _, rfl⟩ := rvs_mem hv
  exact rvX_cn ns a b
theorem cr_cn {s t : Str} : Cn 6 36 (crV (rvs ns) s t) := by
  rcases crV_mem (vs := rvs ns) (s := s) (t := t) with h | ⟨v, hv, _, e⟩
  · rw [h]; exact .zero
  · rw [e]; exact rvs_cn v hv
theorem cr_nonneg {s t : Str} : 0 ≤ crV (rvs ns) s t := by
  rcases crV_mem (vs := rvs ns) (s := s) (t := t) with h | ⟨v, hv, _, e⟩
  · rw [h]; exact Rat.le_refl
  · rw [e]; exact Rat.le_of_lt (rvs_ok v hv).pos
theorem cr_self {s : Str} : crV (rvs ns) s s = 0 := by
  rcases crV_mem (vs := rvs ns) (s := s) (t := s) with h | ⟨v, hv, m, _⟩
  · exact h
  · exfalso
    have ne := (rvs_ok v hv).ne
    rcases mt_iff.mp m with ⟨a, b⟩ | ⟨a, b⟩
    · exact ne (by rw [a, b])
    · exact ne (by rw [a, b])
theorem tot_sm (s : Str) : totV s (rvs ns) = sm (nN ns) fun j => crV (rvs ns) s (stA (nmL ns) j) := by
  rw [← sum_cr (nmL_nodup ns) (rvs ns) rvs_ok rvs_once, sumT_sm, nmL_len]
theorem tot_cn2 (s : Str) : Cn 6 216 (totV s (rvs ns)) := by
  rw [tot_sm]
  refine (Cn.sm (B := 36) (fun c _ => cr_cn) (by decide)).mono ?_
  have := nN_le ns
  omega
theorem pd_o (k : Nat) : Cn 6 246 (pd ns k).o := (tot_cn2 _).add (pdO_cn ns k).1 (by decide)
theorem four_12 {d : Int} (h : 0 ≤ d) (h4 : d < 4) : (1 + d) ∣ ((12 : Nat) : Int) := by
  have : d = 0 ∨ d = 1 ∨ d = 2 ∨ d = 3 := by omega
  rcases this with h | h | h | h <;> subst h <;> decide
theorem pd_b (k : Nat) : Cn 12 1308 (pd ns k).b ∧ 0 < (pd ns k).b := by
  have f4 := fmod_lt (i := (cellR ns (6 + k)).fdiv 11) (j := 4) (by decide)
  have f9 := fmod_lt (i := (cellR ns (6 + k)).fdiv 7) (j := 90) (by decide)
  exact ⟨Cn.divInt (B := 109) (D := 12) (by omega) (four_12 f4.1 f4.2) (by decide) (by omega), divInt_pos (by omega) (by omega)⟩
theorem divInt_nonneg {n d : Int} (hn : 0 ≤ n) (hd : 0 < d) : 0 ≤ Rat.divInt n d := by
  rcases Int.lt_or_eq_of_le hn with h | h
  · exact Rat.le_of_lt (divInt_pos h hd)
  · rw [← h, Rat.zero_divInt]
    exact Rat.le_refl
theorem pd_c (k : Nat) : Cn 12 96 (pd ns k).c ∧ 0 ≤ (pd ns k).c := by
  have f2 := fmod_lt (i := (cellR ns (6 + k)).fdiv 540) (j := 2) (by decide)
  have f9 := fmod_lt (i := (cellR ns (6 + k)).fdiv 60) (j := 9) (by decide)
  exact ⟨Cn.divInt (B := 8) (D := 12) (by omega) (four_12 f2.1 (by omega)) (by decide) (by omega), divInt_nonneg (by omega) (by omega)⟩
theorem pdW_lt (k : Nat) : pdW ns k < 4 := by
  have := fmod_lt (i := (cellR ns (6 + k)).fdiv 15) (j := 4) (by decide)
  unfold pdW
  omega
theorem ow_nm (k : Nat) : isNm (pd ns k).ow = true := owL_nm (stA_mem (by rw [owL_len]; exact pdW_lt k))
theorem pd_nm {k : Nat} (hk : k < nN ns) : isNm (pd ns k).nm = true := nmL_nm (stA_mem (by rw [nmL_len]; exact hk))
theorem pd_opos (k : Nat) : 0 < (pd ns k).o := by
  have a := (pdO_cn ns k).2
  have b : 0 ≤ totV (stA (nmL ns) k) (rvs ns) := by
    rw [tot_sm]
    exact sm_nonneg fun _ _ => cr_nonneg
  show 0 < totV (stA (nmL ns) k) (rvs ns) + pdO ns k
  grind
theorem pds_mem {p : Prd} (h : p ∈ pds ns) : ∃ k, k < nN ns ∧ p = pd ns k := by
  obtain ⟨k, hk, e⟩ := List.mem_map.mp h
  exact ⟨k, List.mem_range.mp hk, e.symm⟩
theorem pds_nm : (pds ns).map (·.nm) = nmL ns := by
  unfold pds
  rw [List.map_map]
  have := list_stA (nmL ns)
  rw [nmL_len] at this
  exact this
theorem pds_len : (pds ns).length = nN ns := by simp [pds]
theorem pd_w {k : Nat} (hk : k < nN ns) : PrdW (pd ns k) :=
  ⟨nm_len (pd_nm hk), nm_len (ow_nm k), wd_small (k := 10) (l := 30) (pd_b k).1 (by decide) (by decide) (by decide), wd6 (pd_o k) (by decide), wd_small (k := 10) (l := 30) (pd_c k).1 (by decide) (by decide) (by decide)⟩
theorem chk_good : ∀ (ps : List Prd) (seen : List Str), (∀ p ∈ ps, isNm p.nm = true ∧ isNm p.ow = true ∧ 0 < p.b ∧ 0 < p.o ∧ ¬ p.c < 0) → (∀ p ∈ ps, p.nm ∉ seen) → (ps.map (·.nm)).Nodup → chkP seen ps = none
  | [], _, _, _, _ => rfl
  | p :: ps, seen, h, hs, hn => by
    obtain ⟨a, b, c, d, e⟩ := h p List.mem_cons_self
    rw [List.map_cons, List.nodup_cons] at hn
    unfold chkP
    rw [if_pos ⟨a, b⟩, if_neg (hs p List.mem_cons_self), if_pos ⟨c, d, e⟩]
    refine chk_good ps (seen ++ [p.nm]) (fun q hq => h q (List.mem_cons_of_mem _ hq)) (fun q hq z => ?_) hn.2
    rcases List.mem_append.mp z with y | y
    · exact hs q (List.mem_cons_of_mem _ hq) y
    · exact hn.1 (by rw [← List.mem_singleton.mp y]; exact List.mem_map.mpr ⟨q, hq, rfl⟩)
theorem sortPr_id {ps : List Prd} (h : (ps.map (·.nm)).Pairwise fun a b => ltS a b = true) : sortPr ps = ps := by
  rw [List.pairwise_map] at h
  exact sortB_id (h.imp fun h => ltS_as _ _ h)
/-- the drawn market, by places -/
def dm (ns : List Int) (r : KR) : Mk := ⟨nN ns, fun i => (pd ns i).nm, fun i => (pd ns i).ow, fun i => (pd ns i).b, fun i => (pd ns i).o, fun i => (pd ns i).c, fun i j => crV (rvs ns) (pd ns i).nm (pd ns j).nm, kvD r⟩
theorem dm_D {r : KR} : mkD (dm ns r) = mk0 ((pds ns).map prdD) (kvD r) := by
  unfold mkD mk0 prodL pds
  rw [List.map_map]
  rfl
theorem drawn_made : ∃ r, mkInit (pds ns) (rvs ns) = .ok (pds ns, r) ∧ ∀ s t, (valR r (pair s t)).getD 0 = crV (rvs ns) s t := by
  obtain ⟨n1, n6⟩ := nN_le ns
  have nm := pds_nm (ns := ns)
  have ck : chkP [] (pds ns) = none := chk_good (pds ns) [] (fun p hp => by
    obtain ⟨k, hk, rfl⟩ := pds_mem hp
    exact ⟨pd_nm hk, ow_nm k, (pd_b k).2, pd_opos k, Rat.not_lt.mpr (pd_c k).2⟩) (fun _ _ => by simp) (by rw [nm]; exact nmL_nodup ns)
  have so : sortPr (pds ns) = pds ns := sortPr_id (by rw [nm]; exact nmL_rise ns)
  obtain ⟨r, h1, h2⟩ := addAll_once (ns := nmL ns) (rvs ns) [] rvs_ok rvs_once fun _ _ => rfl
  have hv : ∀ s t, (valR r (pair s t)).getD 0 = crV (rvs ns) s t := fun s t => by
    rw [h2]
    unfold crV
    cases (rvs ns).find? (mt s t) with
    | none => rfl
    | some v => rfl
  refine ⟨r, ?_, hv⟩
  unfold mkInit
  rw [if_pos (by rw [pds_len]; exact ⟨n1, n6⟩), ck, so, nm]
  simp only [h1]
  rw [if_pos]
  intro p hp
  obtain ⟨k, hk, rfl⟩ := pds_mem hp
  rw [totR_sum (vs := rvs ns) (fun t => hv _ t), sum_cr (nmL_nodup ns) (rvs ns) rvs_ok rvs_once]
  have := (pdO_cn ns k).2
  show totV (stA (nmL ns) k) (rvs ns) < totV (stA (nmL ns) k) (rvs ns) + pdO ns k
  grind
theorem wide2 {B : Nat} {x : Rat} (h : Cn 6 B x) : Cn 12 (B * 2) x := h.wider (E := 2) (by decide)
theorem dm_ok {r : KR} (hv : ∀ s t, (valR r (pair s t)).getD 0 = crV (rvs ns) s t) : MkOk (dm ns r) 12 1308 := by
  obtain ⟨n1, n6⟩ := nN_le ns
  refine ⟨n1, n6, fun i j h1 h2 => rise_at (nmL_rise ns) h1 (by rw [nmL_len]; exact h2), fun i j _ _ => ?_, fun i _ => cr_self, by decide, by decide, le_pow (k := 11) (by decide) (by decide), fun i _ => (pd_b i).1, fun i _ => (wide2 (pd_o i)).mono (by decide), fun i _ => (pd_c i).1.mono (by decide), fun i j _ _ => (wide2 cr_cn).mono (by decide)⟩
  show (valD (kvD r) (pair (pd ns i).nm (pd ns j).nm)).getD (rq 0) = rq (crV (rvs ns) (pd ns i).nm (pd ns j).nm)
  rw [valD_kvD, ← hv]
  cases valR r (pair (pd ns i).nm (pd ns j).nm) <;> rfl
theorem dm_eq {r : KR} : EqOk (dm ns r) 12 1308 492 := by
  refine ⟨fun i j _ _ => cr_nonneg, fun i j _ _ => crV_sym, fun i hi => ?_, fun i _ => wide2 (pd_o i), fun i j _ _ => (wide2 cr_cn).mono (by decide), by decide, by decide, by decide⟩
  have e : sm (dm ns r).n ((dm ns r).cr i) = totV (stA (nmL ns) i) (rvs ns) := (tot_sm _).symm
  rw [e]
  have := (pdO_cn ns i).2
  show _ < totV (stA (nmL ns) i) (rvs ns) + pdO ns i
  grind
theorem drawn_in : InOk 6 36 (pds ns) (rvs ns) := by
  obtain ⟨n1, n6⟩ := nN_le ns
  refine ⟨fun p hp => ?_, rvs_cn, by decide, le_pow (k := 3) (by decide) (by decide), le_pow (k := 6) (by decide) (by decide), by rw [pds_len]; omega, by have := rvs_len ns; omega⟩
  obtain ⟨k, hk, rfl⟩ := pds_mem hp
  exact pd_w hk
/-- Market(products, rivalries) of the drawn lists -/
theorem market_drawn (ns : List Int) : ∃ r, (∀ s t, (valR r (pair s t)).getD 0 = crV (rvs ns) s t) ∧ RM.mI_Market___init__ [.ins 0 [], .lst ((pds ns).map prdD), .lst ((rvs ns).map rivD)] = .ok .non (mkD (dm ns r)) := by
  obtain ⟨r, h1, h2⟩ := drawn_made (ns := ns)
  refine ⟨r, h2, ?_⟩
  rw [init_eq drawn_in, h1, dm_D]
end
end MR

set_option Elab.async false
set_option linter.all false
set_option maxRecDepth 100000
set_option maxHeartbeats 1000000
/-! PV: the law's own crosses, demands and profits. -/
namespace MR
open PySem L2
/-- a text that can be written -/
def PlS (s : Str) : Prop := s.cps.all (· < 0x110000) = true
theorem nm_pl {s : Str} (h : isNm s = true) : PlS s := by
  unfold isNm at h
  rw [Bool.and_eq_true] at h
  have a := List.all_eq_true.mp h.1
  unfold PlS
  rw [Array.all_eq_true_iff_forall_mem]
  intro c hc
  have := of_decide_eq_true (a c (by simpa using hc))
  rw [abc_list] at this
  obtain ⟨i, hi, e⟩ := List.mem_map.mp this
  have := List.mem_range.mp hi
  exact decide_eq_true (by omega)
theorem plain_two {a b : Str} (ha : PlS a) (hb : PlS b) : plain 1 (.tup [.str a, .str b]) = true := by
  show (a.cps.all (· < 0x110000) && (b.cps.all (· < 0x110000) && true)) = true
  rw [show a.cps.all (· < 0x110000) = true from ha, show b.cps.all (· < 0x110000) = true from hb]
  rfl
structure VsP (vs : List Riv) : Prop where
  p : ∀ v ∈ vs, PlS v.a ∧ PlS v.b
theorem fEq_pair {a b s t : Str} (ha : PlS a) (hb : PlS b) (hs : PlS s) (ht : PlS t) : fEq (.tup [.str a, .str b]) (.tup [.str s, .str t]) = some (decide (a = s) && decide (b = t)) := by
  rw [fEq_plain (plain_two ha hb) (plain_two hs ht)]
  congr 1
  show ((a == s) && ((b == t) && true)) = _
  rw [Bool.and_true]
  have h : ∀ x y : Str, (x == y) = decide (x = y) := fun x y => by
    by_cases q : x = y
    · rw [q, beq_self_eq_true, decide_eq_true rfl]
    · rw [decide_eq_false q]
      exact beq_eq_false_iff_ne.mpr q
  rw [h, h]
abbrev gCr : MB := bTup 3 (bCons (bName 3) (bCons (bName 4) (bCons (bName 5) bNil)))
theorem lcross_loop {l : D} {s t : Str} (hs : PlS s) (ht : PlS t) : ∀ vs : List Riv, (∀ v ∈ vs, PlS v.a ∧ PlS v.b) → (vs.find? (mt s t) = none ∧ forL gCr RM.b__law_cross_L0 (vs.map rivD) [l, .str s, .str t, .non, .non, .non] = .nx [l, .str s, .str t, .non, .non, .non]) ∨
    ∃ v ρ, vs.find? (mt s t) = some v ∧ forL gCr RM.b__law_cross_L0 (vs.map rivD) [l, .str s, .str t, .non, .non, .non] = .ret (rq v.x) ρ
  | [], _ => .inl ⟨rfl, rfl⟩
  | v :: vs, hv => by
    obtain ⟨va, vb⟩ := hv v List.mem_cons_self
    rw [List.map_cons, forL_cons]
    have em : mt s t v = ((decide (v.a = s) && decide (v.b = t)) || (decide (v.b = s) && decide (v.a = t))) := by
      unfold mt
      rw [Bool.decide_or, Bool.decide_and, Bool.decide_and]
    have st : RM.b__law_cross_L0 [l, .str s, .str t, .str v.a, .str v.b, rq v.x] = if mt s t v = true then .ret (rq v.x) [l, .str s, .str t, .str v.a, .str v.b, rq v.x] else .nx [l, .str s, .str t, .non, .non, .non] := by
      have e1 := fEq_pair (a := v.a) (b := v.b) (s := s) (t := t) va vb hs ht
      have e2 := fEq_pair (a := v.b) (b := v.a) (s := s) (t := t) vb va hs ht
      rw [em]
      generalize (decide (v.a = s) && decide (v.b = t)) = p at e1
      generalize (decide (v.b = s) && decide (v.a = t)) = q at e2
      unfold RM.b__law_cross_L0
      cases p <;> cases q <;> simp [e1, e2]
    by_cases q : mt s t v = true
    · rw [if_pos q] at st
      refine .inr ⟨v, [l, .str s, .str t, .str v.a, .str v.b, rq v.x], List.find?_cons_of_pos q, ?_⟩
      show Out.loop (RM.b__law_cross_L0 [l, .str s, .str t, .str v.a, .str v.b, rq v.x]) _ = _
      rw [st, loop_ret]
    · rw [if_neg q] at st
      rw [List.find?_cons_of_neg q]
      have e : ∀ k, Out.loop (Out.bindO (gCr (rivD v) [l, .str s, .str t, .non, .non, .non]) RM.b__law_cross_L0) k = k [l, .str s, .str t, .non, .non, .non] := fun k => by
        show Out.loop (RM.b__law_cross_L0 [l, .str s, .str t, .str v.a, .str v.b, rq v.x]) k = _
        rw [st, loop_nx]
      rw [e]
      exact lcross_loop hs ht vs fun w hw => hv w (List.mem_cons_of_mem _ hw)
theorem lcross_eq {vs : List Riv} {s t : Str} (hv : ∀ v ∈ vs, PlS v.a ∧ PlS v.b) (hs : PlS s) (ht : PlS t) : RM.m__law_cross [.lst (vs.map rivD), .str s, .str t] = .ok (rq (crV vs s t)) := by
  unfold RM.m__law_cross
  rw [mDef_eq]
  unfold RM.b__law_cross crV
  rcases lcross_loop (l := .lst (vs.map rivD)) (s := s) (t := t) hs ht vs hv with ⟨h1, h2⟩ | ⟨v, ρ, h1, h2⟩
  · simp [h1, h2, rq_zero]
  · simp [h1, h2]
section
variable {m : Mk} {D B E C : Nat} {p : Nat → Rat} {vs : List Riv}
theorem ix_prod {i : Nat} (h : i < m.n) : fIx (.lst (prodL m)) (.int i) = some (prd m i) := ix_rng h
/-- the law's rivalries tell the market's crosses -/
structure VsOk (m : Mk) (vs : List Riv) : Prop where
  c : ∀ i j, i < m.n → j < m.n → m.cr i j = crV vs (m.nm i) (m.nm j)
  v : ∀ v ∈ vs, PlS v.a ∧ PlS v.b
  s : ∀ i, i < m.n → PlS (m.nm i)
theorem ldem_turn (h : MkOk m D B) (hp : PrOk m p E C) (hc : VsOk m vs) {i k : Nat} (hi : i < m.n) (hk : k < m.n) {F x : MR.D} :
    RM.b__law_demands_L1 [.lst (prodL m), .lst (vs.map rivD), rql (rowL m.n p), F, .int i, rq (m.b i - m.o i * p i + sm k fun j => m.cr i j * p j), .int k, .non] =
      .nx [.lst (prodL m), .lst (vs.map rivD), rql (rowL m.n p), F, .int i, rq (m.b i - m.o i * p i + sm (k + 1) fun j => m.cr i j * p j), .non, .non] := by
  have x1 := ix_prod hi
  have x2 := ix_prod hk
  have x3 := ix_rowL (f := p) hk
  have lc := lcross_eq (vs := vs) (s := m.nm i) (t := m.nm k) hc.v (hc.s i hi) (hc.s k hk)
  rw [← hc.c i k hi hk] at lc
  have t := ltimes_w (h.wd (h.bx i k hi hk)) (hp.wd hk)
  have ad := ladd_w (dem_wd h hp hi (k := k) (by omega)) (mul_wd h hp (h.bx i k hi hk) hk)
  unfold RM.b__law_demands_L1
  by_cases q : k = i
  · subst q
    rw [sm_succ, h.self k hk, Rat.zero_mul, Rat.add_zero]
    simp
  · have q2 : ¬ (k : Int) = (i : Int) := by omega
    rw [sm_succ, ← Rat.add_assoc]
    simp only [fIx_lst] at x1 x2
    simp [q, q2, x1, x2, prd, lc, x3, t, ad]
theorem ldemands_eq (h : MkOk m D B) (hp : PrOk m p E C) (hc : VsOk m vs) :
    RM.m__law_demands [.lst (prodL m), .lst (vs.map rivD), rql (rowL m.n p)] = .ok (rql (rowL m.n (dem m p))) := by
  have n6 := h.n6
  have row : ∀ i, i < m.n → ∀ F : MR.D, forL (bName 6) RM.b__law_demands_L1 (ilist 0 m.n) [.lst (prodL m), .lst (vs.map rivD), rql (rowL m.n p), F, .int i, rq (m.b i - m.o i * p i), .non, .non] =
      .nx [.lst (prodL m), .lst (vs.map rivD), rql (rowL m.n p), F, .int i, rq (dem m p i), .non, .non] := fun i hi F => by
    have := forL_range (i := 6) (s1 := RM.b__law_demands_L1) (fun k => [.lst (prodL m), .lst (vs.map rivD), rql (rowL m.n p), F, .int i, rq (m.b i - m.o i * p i + sm k fun j => m.cr i j * p j), .non, .non]) m.n fun k hk => .inl (ldem_turn h hp hc hi hk (x := .non))
    rw [sm_zero, Rat.add_zero] at this
    exact this
  have rg : ∀ a b c d e f : MR.D, mRng rng1 (mCons (mCB fLen (mCons (mVar 0) mNil)) mNil) [.lst (prodL m), a, b, c, d, e, f, .non] = .ok (ilist 0 m.n) [.lst (prodL m), a, b, c, d, e, f, .non] := fun a b c d e f => mRng1_ok (by simp [prodL_len]) (by omega)
  have go := forL_range (i := 4) (s1 := RM.b__law_demands_L0) (fun k => [.lst (prodL m), .lst (vs.map rivD), rql (rowL m.n p), rql (rowL k (dem m p)), .non, .non, .non, .non]) m.n fun k hk => .inl (by
    have x1 := ix_prod hk
    have x3 := ix_rowL (f := p) hk
    have t := ltimes_w (h.wd (h.bo k hk)) (hp.wd hk)
    have sb := lsub_w (h.wd (h.bb k hk)) (mul_wd h hp (h.bo k hk) hk)
    have rr := row k hk (rql (rowL k (dem m p)))
    have kl : k < 1000000 := by omega
    simp only [fIx_lst] at x1
    unfold RM.b__law_demands_L0
    simp [-mRng_eq, -rng1_eq, rg, x1, prd, x3, t, sb, rr, kl, rowL_len, rql_snoc, rowL_snoc])
  rw [rowL_zero] at go
  unfold RM.m__law_demands
  rw [mDef_eq]
  unfold RM.b__law_demands
  simp [-mRng_eq, -rng1_eq, rg, rql_nil, go]
theorem lprofit_eq (h : MkOk m D B) (hp : PrOk m p E C) (hc : VsOk m vs) {a : Str} :
    RM.m__law_profit [.lst (prodL m), .lst (vs.map rivD), .str a, rql (rowL m.n p)] = .ok (rq (pro m a p)) := by
  have n6 := h.n6
  have dm := ldemands_eq h hp hc
  have rg : ∀ a b c d e f : MR.D, mRng rng1 (mCons (mCB fLen (mCons (mVar 0) mNil)) mNil) [.lst (prodL m), a, b, c, d, e, f] = .ok (ilist 0 m.n) [.lst (prodL m), a, b, c, d, e, f] := fun a b c d e f => mRng1_ok (by simp [prodL_len]) (by omega)
  have go := forL_range (i := 6) (s1 := RM.b__law_profit_L0) (fun k => [.lst (prodL m), .non, .str a, rql (rowL m.n p), rql (rowL m.n (dem m p)), rq (sm k fun i => if m.ow i = a then (p i - m.c i) * dem m p i else 0), .non]) m.n fun k hk => .inl (by
    have x1 := ix_prod hk
    have x3 := ix_rowL (f := p) hk
    have x4 := ix_rowL (f := dem m p) hk
    have sb := lsub_w (hp.wd hk) (h.wd (h.bc k hk))
    have t := ltimes_w (gain_wd h hp hk) (demw h hp hk)
    have ad := ladd_w (pro_wd h hp (a := a) (k := k) (by omega)) (term_wd h hp hk)
    simp only [fIx_lst] at x1
    unfold RM.b__law_profit_L0
    by_cases q : m.ow k = a
    · simp [prd, q, x1, x3, x4, sb, t]
      rw [ad, sm_succ, if_pos q]
      rfl
    · simp [prd, q, x1]
      rw [sm_succ, if_neg q, Rat.add_zero]
      exact ⟨rfl, rfl⟩)
  rw [sm_zero] at go
  unfold RM.m__law_profit
  rw [mDef_eq]
  unfold RM.b__law_profit
  simp [-mRng_eq, -rng1_eq, rg, dm, rq_zero, go]
  exact ⟨rfl, rfl⟩
end
end MR

set_option Elab.async false
set_option linter.all false
set_option maxRecDepth 100000
set_option maxHeartbeats 1000000
/-! PX: products of rows with great values, the judge, lively markets. -/
namespace MR
open PySem L2
section
variable {m : Mk} {D B E C : Nat} {p : Nat → Rat}
/-- rows and values over common numbers -/
structure RwOk (n D B E C : Nat) (M : Tb) (p : Nat → Rat) : Prop where
  n6 : n ≤ 6
  D0 : 0 < D
  D1 : D < 2 ^ 2000
  B1 : B < 2 ^ 2001
  E0 : 0 < E
  E1 : E < 2 ^ 1000
  C1 : C < 2 ^ 3000000
  hM : ∀ r c, r < n → c < n → Cn D B (M r c)
  hp : ∀ c, c < n → Cn E C (p c)
theorem RwOk.part {n : Nat} {M : Tb} (h : RwOk n D B E C M p) {r k : Nat} (hr : r < n) (hk : k ≤ n) : Wd (sm k fun c => M r c * p c) := by
  have n6 := h.n6
  have d0 : 0 < D * E := Nat.mul_pos h.D0 h.E0
  refine wd_small (l := 2001 + 3000000 + 3) ((Cn.sm (n := k) (D := D * E) (B := B * C) (fun c hc => (h.hM r c hr (by omega)).mul (h.hp c (by omega))) d0).mono (show k * (B * C) ≤ 6 * (B * C) from Nat.mul_le_mul (by omega) (Nat.le_refl _))) d0 (mul_bits h.D1 h.E1) ?_
  have x := mul_bits h.B1 h.C1
  have e : (2 : Nat) ^ (2001 + 3000000 + 3) = 2 ^ (2001 + 3000000) * 8 := by rw [Nat.pow_add]
  rw [e]
  generalize (2 : Nat) ^ (2001 + 3000000) = z at x
  omega
theorem RwOk.term {n : Nat} {M : Tb} (h : RwOk n D B E C M p) {r c : Nat} (hr : r < n) (hc : c < n) : Wd (M r c * p c) :=
  wd_small ((h.hM r c hr hc).mul (h.hp c hc)) (Nat.mul_pos h.D0 h.E0) (mul_bits h.D1 h.E1) (mul_bits h.B1 h.C1)
theorem RwOk.wm {n : Nat} {M : Tb} (h : RwOk n D B E C M p) {r c : Nat} (hr : r < n) (hc : c < n) : Wd (M r c) := wd_small (h.hM r c hr hc) h.D0 h.D1 h.B1
theorem RwOk.wp {n : Nat} {M : Tb} (h : RwOk n D B E C M p) {c : Nat} (hc : c < n) : Wd (p c) := wd_small (h.hp c hc) h.E0 h.E1 h.C1
theorem zip_rows {n : Nat} {f p : Nat → Rat} : zip2 [rql (rowL n f), rql (rowL n p)] = some ((List.range n).map fun j => MR.D.tup [rq (f j), rq (p j)]) := by
  unfold rql rowL
  rw [List.map_map, List.map_map]
  exact congrArg some zip_rng
theorem product_w {n : Nat} {M : Tb} (h : RwOk n D B E C M p) : RV.m_product [rqm (rowsL n M), rql (rowL n p)] = .ok (rql (rowL n fun r => sm n fun c => M r c * p c)) := by
  have n6 := h.n6
  have row : ∀ r, r < n → ∀ acc : MR.D, forL (bTup 2 (bCons (bName 5) (bCons (bName 6) bNil))) RV.b_product_L1 ((List.range n).map fun j => MR.D.tup [rq (M r j), rq (p j)])
      [rqm (rowsL n M), rql (rowL n p), acc, rql (rowL n (M r)), rq 0, .non, .non] = .nx [rqm (rowsL n M), rql (rowL n p), acc, rql (rowL n (M r)), rq (sm n fun c => M r c * p c), .non, .non] := fun r hr acc => by
    have := forL_rng (g := bTup 2 (bCons (bName 5) (bCons (bName 6) bNil))) (s1 := RV.b_product_L1) (f := fun j => MR.D.tup [rq (M r j), rq (p j)])
      (fun k => [rqm (rowsL n M), rql (rowL n p), acc, rql (rowL n (M r)), rq (sm k fun c => M r c * p c), .non, .non]) n fun k hk => by
        refine ⟨_, rfl, .inl ?_⟩
        have t := times_w (h.wm hr hk) (h.wp hk)
        have a := add_w (h.part hr (k := k) (by omega)) (h.term hr hk)
        unfold RV.b_product_L1
        simp [t, a]
        rw [sm_succ]
        exact ⟨rfl, rfl⟩
    rw [sm_zero] at this
    exact this
  have go := forL_rng (g := bName 3) (s1 := RV.b_product_L0) (f := fun r => rql (rowL n (M r)))
    (fun k => [rqm (rowsL n M), rql (rowL n p), rql (rowL k fun r => sm n fun c => M r c * p c), .non, .non, .non, .non]) n fun k hk => by
      refine ⟨_, rfl, .inl ?_⟩
      have rr := row k hk (rql (rowL k fun r => sm n fun c => M r c * p c))
      have kl : k < 1000000 := by omega
      have sn := rowL_snoc (n := k) (f := fun r => sm n fun c => M r c * p c)
      unfold RV.b_product_L0
      simp [rq_zero, zip_rows, rr, kl, rowL_len, rql_snoc, sn]
  rw [rowL_zero] at go
  have ei : itemsOf (rqm (rowsL n M)) = some ((List.range n).map fun r => rql (rowL n (M r))) := by
    unfold rqm rowsL
    rw [List.map_map]
    rfl
  unfold RV.m_product
  rw [mDef_eq]
  unfold RV.b_product
  simp [-items_rqm, ei, rql_nil, go]
theorem rowL_ext {n : Nat} {f g : Nat → Rat} : rowL n f = rowL n g ↔ ∀ c, c < n → f c = g c := by
  constructor
  · intro h c hc
    have := congrArg (fun l => at0 l c) h
    simpa [rowL_at hc] using this
  · exact rowL_congr
theorem eqs_ok {M : Nat} (h : MkOk m D B) (q : EqOk m D B M) (hp : PrOk m p E C) : RwOk m.n (D * D) (2 * M * D) E C (eqM m) p :=
  ⟨h.n6, (dd_lt h).1, (dd_lt h).2, le_pow q.s1, hp.E0, hp.E1, hp.C1, fun r c hr hc => eqM_cn h q hr hc, hp.bp⟩
/-- all demands are above 0 -/
def Lively (m : Mk) (x : Nat → Rat) : Prop := ∀ i, i < m.n → 0 < dem m x i
theorem judge_eq {M : Nat} (h : MkOk m D B) (q : EqOk m D B M) (hp : PrOk m p E C) {x : Nat → Rat} (hx : ∀ r, r < m.n → sm m.n (fun c => eqM m r c * x c) = eqV m r) :
    RM.m_judge [mkD m, rql (rowL m.n p)] = .ok (.bl (decide (rowL m.n p = rowL m.n x))) := by
  have eq := equations_eqM h
  have pr := product_w (eqs_ok h q hp)
  have e : decide (rowL m.n (fun r => sm m.n fun c => eqM m r c * p c) = rowL m.n (eqV m)) = decide (rowL m.n p = rowL m.n x) := by
    rw [decide_eq_decide, rowL_ext, rowL_ext]
    constructor
    · intro hz c hc
      have := (dom_eqM q).kernel (z := fun c => p c - x c) (fun r hr => by
        have : sm m.n (fun c => eqM m r c * (p c - x c)) = sm m.n (fun c => eqM m r c * p c) - sm m.n (fun c => eqM m r c * x c) := by
          rw [← sm_subf]
          exact sm_congr fun c _ => by grind
        rw [this, hz r hr, hx r hr]
        grind) c hc
      grind
    · intro hz r hr
      rw [← hx r hr]
      exact sm_congr fun c hc => by rw [hz c hc]
  unfold RM.m_judge
  rw [mDef_eq]
  unfold RM.b_judge
  simp [eq, rowL_len, rowsL_len, pr, fEq_rql, e]
theorem judge_len (h : MkOk m D B) {ys : List Rat} (hl : ys.length ≠ m.n) : RM.m_judge [mkD m, rql ys] = .ok (.bl false) := by
  have eq := equations_eqM h
  have ne : ¬ (ys.length : Int) = (m.n : Int) := by omega
  unfold RM.m_judge
  rw [mDef_eq]
  unfold RM.b_judge
  simp [eq, rowsL_len, ne]
theorem lively_loop {M : MR.D} : ∀ xs : List Rat, (∀ x ∈ xs, Wd x) → ((∀ x ∈ xs, 0 < x) ∧ forL (bName 1) RM.b_is_lively_L0 (xs.map rq) [M, .non] = .nx [M, .non]) ∨ ((¬ ∀ x ∈ xs, 0 < x) ∧ ∃ ρ, forL (bName 1) RM.b_is_lively_L0 (xs.map rq) [M, .non] = .ret (.bl false) ρ)
  | [], _ => .inl ⟨fun _ h => by simp at h, rfl⟩
  | x :: xs, h => by
    have l := less_w wd_zero (h x List.mem_cons_self)
    rw [List.map_cons, forL_cons]
    by_cases q : 0 < x
    · have st : RM.b_is_lively_L0 [M, rq x] = .nx [M, .non] := by
        unfold RM.b_is_lively_L0
        simp [rq_zero, l, q]
      have e : ∀ k, Out.loop (Out.bindO ((bName 1) (rq x) [M, .non]) RM.b_is_lively_L0) k = k [M, .non] := fun k => by
        show Out.loop (RM.b_is_lively_L0 [M, rq x]) k = _
        rw [st, loop_nx]
      rw [e]
      rcases lively_loop (M := M) xs fun y hy => h y (List.mem_cons_of_mem _ hy) with ⟨a, b⟩ | ⟨a, b⟩
      · refine .inl ⟨fun y hy => ?_, b⟩
        rcases List.mem_cons.mp hy with z | z
        · rw [z]; exact q
        · exact a y z
      · exact .inr ⟨fun z => a fun y hy => z y (List.mem_cons_of_mem _ hy), b⟩
    · refine .inr ⟨fun z => q (z x List.mem_cons_self), [M, rq x], ?_⟩
      have st : RM.b_is_lively_L0 [M, rq x] = .ret (.bl false) [M, rq x] := by
        unfold RM.b_is_lively_L0
        simp [rq_zero, l, q]
      show Out.loop (RM.b_is_lively_L0 [M, rq x]) _ = _
      rw [st, loop_ret]
theorem lively_eq (h : MkOk m D B) (hp : PrOk m p E C) (he : RM.m_equilibrium [mkD m] = .ok (rql (rowL m.n p))) : ∃ b : Bool, RM.m_is_lively [mkD m] = .ok (.bl b) ∧ (b = true ↔ ∀ y ∈ rowL m.n (dem m p), 0 < y) := by
  have dm := demands_eqM h hp
  have w : ∀ y ∈ rowL m.n (dem m p), Wd y := fun y hy => by
    obtain ⟨i, hi, rfl⟩ := List.mem_map.mp hy
    exact demw h hp (List.mem_range.mp hi)
  rcases lively_loop (M := mkD m) (rowL m.n (dem m p)) w with ⟨a, b⟩ | ⟨a, ρ, b⟩
  · refine ⟨true, ?_, ⟨fun _ => a, fun _ => rfl⟩⟩
    unfold RM.m_is_lively
    rw [mDef_eq]
    unfold RM.b_is_lively
    simp [he, dm, b]
  · refine ⟨false, ?_, ⟨fun z => absurd z (by decide), fun z => absurd z a⟩⟩
    unfold RM.m_is_lively
    rw [mDef_eq]
    unfold RM.b_is_lively
    simp [he, dm, b]
/-! ### the law's quotients, and products with what is not in lowest terms -/
theorem lover_w {x y : Rat} (h1 : Wd x) (h2 : y.num.natAbs < 2 ^ 4000) (h3 : y.den < 2 ^ 4000) (h0 : 0 < y) (hb : x.den < 2 ^ 4000) : RM.m__law_over [rq x, rq y] = .ok (rq (x / y)) := by
  have yn : 0 < y.num := by
    have a : 0 ≤ y.num := Rat.num_nonneg.mpr (Rat.le_of_lt h0)
    have b : y.num ≠ 0 := fun e => by
      rw [Rat.num_eq_zero.mp e] at h0
      exact absurd h0 (by decide)
    omega
  have w2 : Wd y := ⟨up4 h2, h3⟩
  have dp : 0 < (x.den : Int) * y.num := Int.mul_pos (den_pos x) yn
  have dl : ((x.den : Int) * y.num).natAbs < 2 ^ 8900 := p2 (mul_bitsI h1.dI h2)
  have e := lratio_w (n := x.num * y.den) (d := x.den * y.num) dp dl
  unfold RM.m__law_over
  rw [mDef_eq]
  unfold RM.b__law_over
  simp [mxw h1.n w2.dN, mxw h1.dN w2.n, e, div_eqD]
theorem ltimes_raw {x : Rat} {n d : Int} (h1 : Wd x) (hn : n.natAbs < 2 ^ 4000) (hd : 0 < d) (hd2 : d.natAbs < 2 ^ 4000) : RM.m__law_times [rq x, .tup [.int n, .int d]] = .ok (rq (x * Rat.divInt n d)) := by
  have dp : 0 < (x.den : Int) * d := Int.mul_pos (den_pos x) hd
  have dl : ((x.den : Int) * d).natAbs < 2 ^ 8900 := p2 (mul_bitsI h1.dI hd2)
  have e := lratio_w (n := x.num * n) (d := x.den * d) dp dl
  have ex : Rat.divInt (x.num * n) (x.den * d) = x * Rat.divInt n d := by
    conv => rhs; rw [← Rat.num_divInt_den x, Rat.divInt_mul_divInt]
  unfold RM.m__law_times
  rw [mDef_eq]
  unfold RM.b__law_times
  simp [mxw h1.n (up4 hn), mxw h1.dN (up4 hd2), e, ex]
end
end MR

set_option Elab.async false
set_option linter.all false
set_option maxRecDepth 100000
set_option maxHeartbeats 4000000
/-! M_k41: the mirrors of the defs (printed by emit.py). -/
namespace K41
open PySem L2 MR
abbrev tags : List Nat := [0, 1, 2, 3, 4]
def b__law_weight_L0 : MS :=
  (mIf (mCmpT fNe (mVar 4) (mVar 2))
  (mSeq (mAsg 5 (mCall RM.m__law_cross [] (mCons (mVar 1) (mCons (mOp fIx (mOp fIx (mVar 0) (mVar 4)) (mC (.int 0))) (mCons (mOp fIx (mOp fIx (mVar 0) (mVar 2)) (mC (.int 0))) mNil)))))
  (mSeq (mAsg 3 (mCall RM.m__law_sub [] (mCons (mVar 3) (mCons (mVar 5) mNil))))
  (mIf (mCmpT fEq (mOp fIx (mOp fIx (mVar 0) (mVar 4)) (mC (.int 1))) (mOp fIx (mOp fIx (mVar 0) (mVar 2)) (mC (.int 1))))
  (mKeep [.d, .d, .d, .d, .x, .x] (mAsg 3 (mCall RM.m__law_sub [] (mCons (mVar 3) (mCons (mVar 5) mNil)))))
  (mKeep [.d, .d, .d, .d, .x, .x] mNext))))
  (mKeep [.d, .d, .d, .d, .x, .x] mNext))
def b__law_weight : MS :=
  (mSeq (mAsg 3 (mCall RM.m__law_times [] (mCons (mTup (mCons (mC (.int 2)) (mCons (mC (.int 1)) mNil))) (mCons (mOp fIx (mOp fIx (mVar 0) (mVar 2)) (mC (.int 3))) mNil))))
  (mSeq (mFor (mRng rng1 (mCons (mCB fLen (mCons (mVar 0) mNil)) mNil)) (bName 4) b__law_weight_L0)
  (mRet (mVar 3))))
def m__law_weight : MP := mDef .d 3 b__law_weight
def b__law_change_L0 : MS :=
  (mKeep [.x, .x, .d, .x, .o, .x, .x, .x, .d, .x] (mAsgT (bSetO 4 (mVar 9)) (mCall RM.m__law_add [] (mCons (mIxO 4 (mVar 9)) (mCons (mCall RM.m__law_times [] (mCons (mVar 8) (mCons (mTup (mCons (mOp fAdd (mVar 9) (mC (.int 1))) (mCons (mC (.int 3)) mNil))) mNil))) mNil)))))
def b__law_change : MS :=
  (mSeq (mAsg 4 (mCB fListOf (mCons (mVar 2) mNil)))
  (mSeq (mAsg 5 (mOp (fIntC CModX Int.fmod) (mCB fIntOf (mCons (mVar 3) mNil)) (mC (.int 3))))
  (mSeq (mAsg 6 (mOp (fIntC CModX Int.fmod) (mOp (fIntC CDivX Int.fdiv) (mCB fIntOf (mCons (mVar 3) mNil)) (mC (.int 3))) (mCB fLen (mCons (mVar 2) mNil))))
  (mSeq (mAsg 7 (mOp (fIntC CModX Int.fmod) (mOp (fIntC CDivX Int.fdiv) (mCB fIntOf (mCons (mVar 3) mNil)) (mC (.int 18))) (mCB fLen (mCons (mVar 2) mNil))))
  (mSeq (mAsg 8 (mCall RM.m__law_ratio [] (mCons (mOp (fInt (· - ·)) (mOp (fIntC CModX Int.fmod) (mOp (fIntC CDivX Int.fdiv) (mCB fIntOf (mCons (mVar 3) mNil)) (mC (.int 5))) (mC (.int 41))) (mC (.int 20))) (mCons (mOp fAdd (mC (.int 1)) (mOp (fIntC CModX Int.fmod) (mOp (fIntC CDivX Int.fdiv) (mCB fIntOf (mCons (mVar 3) mNil)) (mC (.int 200))) (mC (.int 1000)))) mNil))))
  (mSeq (mIf (mCmpT fEq (mVar 5) (mC (.int 0)))
  (mKeep [.x, .x, .x, .x, .o, .x, .x, .x, .x, .x] (mAsgT (bSetO 4 (mVar 6)) (mCall RM.m__law_add [] (mCons (mIxO 4 (mVar 6)) (mCons (mVar 8) mNil)))))
  (mIf (mCmpT fEq (mVar 5) (mC (.int 1)))
  (mKeep [.x, .x, .x, .x, .o, .x, .x, .x, .x, .x] (mKeep0 [.x, .x, .d, .x, .o, .x, .x, .x, .d, .x] (mFor (mRng rng1 (mCons (mCB fLen (mCons (mVar 2) mNil)) mNil)) (bName 9) b__law_change_L0)))
  (mIf (mCmpT fNe (mVar 6) (mVar 7))
  (mKeep [.x, .x, .x, .x, .o, .x, .x, .x, .x, .x] (mSeq (mAsgT (bSetO 4 (mVar 6)) (mCall RM.m__law_add [] (mCons (mIxO 4 (mVar 6)) (mCons (mCall RM.m__law_over [] (mCons (mVar 8) (mCons (mCall m__law_weight [] (mCons (mVar 0) (mCons (mVar 1) (mCons (mVar 6) mNil)))) mNil))) mNil))))
  (mAsgT (bSetO 4 (mVar 7)) (mCall RM.m__law_sub [] (mCons (mIxO 4 (mVar 7)) (mCons (mCall RM.m__law_over [] (mCons (mVar 8) (mCons (mCall m__law_weight [] (mCons (mVar 0) (mCons (mVar 1) (mCons (mVar 7) mNil)))) mNil))) mNil))))))
  (mKeep [.x, .x, .x, .x, .o, .x, .x, .x, .x, .x] mNext))))
  (mRetO 4)))))))
def m__law_change : MP := mDef .o 6 b__law_change
def b_law_L0 : MS :=
  (mIf (mOr (mCmpT fLt (mVar 6) (mC (.int 1))) (mCmpT fNe (mCall RM.m__law_ratio [] (mCons (mVar 5) (mCons (mVar 6) mNil))) (mTup (mCons (mVar 5) (mCons (mVar 6) mNil)))))
  (mRet (mC (.bl false)))
  (mKeep [.d, .d, .d, .d, .d, .x, .x, .x, .x, .x, .x, .x, .x] mNext))
def b_law_L1 : MS :=
  (mSeq (mAsg 8 (mCall m__law_change [] (mCons (mVar 1) (mCons (mVar 2) (mCons (mVar 4) (mCons (mVar 7) mNil))))))
  (mSeq (mAsg 9 (mCB fListOf (mCons (mVar 8) mNil)))
  (mSeq (mAsg 10 (mCall RM.m_judge [] (mCons (mVar 3) (mCons (mVar 9) mNil))))
  (mIf (mOr (mAnd (mCmpT fNotB (mVar 10) (mC (.bl true))) (mCmpT fNotB (mVar 10) (mC (.bl false)))) (mOr (mCmpT fNe (mVar 10) (mCmp fEq (mVar 8) (mVar 4))) (mCmpT fNe (mVar 9) (mVar 8))))
  (mRet (mC (.bl false)))
  (mKeep [.d, .d, .d, .d, .d, .x, .x, .x, .x, .x, .x, .x, .x] mNext)))))
def b_law_C0e : ME :=
  (mVar 12)
def b_law_C0 : ME :=
  (mLc (mItL (mCall RM.m__law_demands [] (mCons (mVar 1) (mCons (mVar 2) (mCons (mVar 4) mNil))))) (bName 12) (mNot (mTr (mCall RM.m__law_less [] (mCons (mTup (mCons (mC (.int 0)) (mCons (mC (.int 1)) mNil))) (mCons (mVar 12) mNil))))) b_law_C0e [.d, .d, .d, .d, .d, .x, .x, .x, .x, .x, .x, .x, .x])
def b_law : MS :=
  (mSeq (mAsg 1 (mCall RM.m__law_products [] (mCons (mVar 0) mNil)))
  (mSeq (mAsg 2 (mCall RM.m__law_rivalries [] (mCons (mVar 0) mNil)))
  (mSeq (mAsg 3 (mMake 0 RM.mI_Market___init__ [] (mCons (mVar 1) (mCons (mVar 2) mNil))))
  (mSeq (mAsg 4 (mCall RM.m_equilibrium [] (mCons (mVar 3) mNil)))
  (mSeq (mDrop (mFM (mCall RM.m_equilibrium [] (mCons (mVar 3) mNil)) (mCons (mTup (mCons (mC (.int 9)) (mCons (mC (.int 1)) mNil))) mNil) gAppend))
  (mSeq (mIf (mOr (mNot (mTr (mUn (fIsi "list") (mVar 4)))) (mCmpT fNe (mCall RM.m_equilibrium [] (mCons (mVar 3) mNil)) (mVar 4)))
  (mRet (mC (.bl false)))
  mNext)
  (mSeq (mFor (mItL (mVar 4)) (bTup 2 (bCons (bName 5) (bCons (bName 6) bNil))) b_law_L0)
  (mSeq (mIf (mOr (mCmpT fNotB (mCall RM.m_judge [] (mCons (mVar 3) (mCons (mCB fListOf (mCons (mVar 4) mNil)) mNil))) (mC (.bl true))) (mOr (mCmpT fNotB (mCall RM.m_judge [] (mCons (mVar 3) (mCons (mOp fAdd (mVar 4) (mLst (mCons (mTup (mCons (mC (.int 0)) (mCons (mC (.int 1)) mNil))) mNil))) mNil))) (mC (.bl false))) (mCmpT fNotB (mCall RM.m_judge [] (mCons (mVar 3) (mCons (mSl fSl (mVar 4) (mPart (mC (.int 1))) mNoPart) mNil))) (mC (.bl false)))))
  (mRet (mC (.bl false)))
  mNext)
  (mSeq (mFor (mItL (mOp fAdd (mSl fSl (mVar 0) (mPart (mC (.int 12))) (mPart (mC (.int 30)))) (mLst (mCons (mC (.int 2)) (mCons (mC (.int 5)) (mCons (mC (.int 20)) (mCons (mC (.int 203)) (mCons (mC (.int 41)) mNil)))))))) (bName 7) b_law_L1)
  (mSeq (mAsg 11 (mCmp fEq b_law_C0 (mLst mNil)))
  (mSeq (mAsg 10 (mCall RM.m_is_lively [] (mCons (mVar 3) mNil)))
  (mRet (mAndV (mOrV (mCmp fIsB (mVar 10) (mC (.bl true))) (mCmp fIsB (mVar 10) (mC (.bl false)))) (mCmp fEq (mVar 10) (mVar 11)))))))))))))))
def m_law : MP := mDef .d 12 b_law
end K41

set_option Elab.async false
set_option linter.all false
set_option maxRecDepth 100000
set_option maxHeartbeats 1000000
/-! P_k41: what the law computes: always True. -/
namespace K41
open PySem L2 MR
/-- a place of a list is written anew -/
def put (f : Nat → Rat) (k : Nat) (v : Rat) : Nat → Rat := fun c => if c = k then v else f c
theorem rowL_put {n k : Nat} {f : Nat → Rat} {v : Rat} : ((rowL n f).map rq).set k (rq v) = (rowL n (put f k v)).map rq := by
  refine List.ext_getElem (by simp [rowL]) fun i h1 h2 => ?_
  have hi : i < n := by simpa [rowL] using h2
  rw [List.getElem_set]
  by_cases e : k = i
  · subst e
    simp [rowL, put]
  · have : ¬ i = k := fun z => e z.symm
    simp [rowL, put, e, this]
theorem Cn.inv {D M : Nat} {w : Rat} (h : Cn D M w) (D0 : 0 < D) (h0 : 0 < w) : ∃ k : Nat, 0 < k ∧ k ≤ M ∧ Cn k D (1 / w) := by
  obtain ⟨k, e, hk⟩ := h.num D0
  have dp : (0 : Rat) < (D : Rat) := by exact_mod_cast D0
  have kp : (0 : Rat) < (k : Rat) := by rw [← e]; exact Rat.mul_pos dp h0
  have kp2 : 0 < k := by exact_mod_cast kp
  refine ⟨k.natAbs, by omega, hk, D, ?_, by omega⟩
  have ek : ((k.natAbs : Nat) : Int) = k := by omega
  rw [ek, Rat.divInt_eq_div]
  have e2 : ((D : Int) : Rat) = (D : Rat) := by norm_cast
  rw [e2, ← e]
  have hw : w ≠ 0 := fun z => by rw [z] at h0; exact absurd h0 (by decide)
  have hD : (D : Rat) ≠ 0 := fun z => by rw [z] at dp; exact absurd dp (by decide)
  grind
section
variable {m : Mk} {x : Nat → Rat} {vs : List Riv}
/-- how an equation's left side changes in all, if a price changes -/
def wt (m : Mk) (j k : Nat) : Rat := 2 * m.o j - sm k fun i => if i = j then 0 else if m.ow i = m.ow j then m.cr i j + m.cr i j else m.cr i j
theorem wt_part (h : MkOk m 12 1308) (q : EqOk m 12 1308 492) {j k : Nat} (hj : j < m.n) (hk : k ≤ m.n) : Cn 12 8000 (wt m j k) := by
  have n6 := h.n6
  have a := cn_two.mul (q.mo j hj)
  rw [Nat.one_mul] at a
  have b := Cn.sm (n := k) (D := 12) (B := 984) (f := fun i => if i = j then 0 else if m.ow i = m.ow j then m.cr i j + m.cr i j else m.cr i j) (fun i hi => by
    have c := q.mx i j (by omega) hj
    split
    · exact .zero
    · split
      · exact c.add c (by decide)
      · exact c.mono (by decide)) (by decide)
  exact (a.sub b (by decide)).mono (by have : k * 984 ≤ 6 * 984 := Nat.mul_le_mul (by omega) (Nat.le_refl _); omega)
theorem wt_wd (h : MkOk m 12 1308) (q : EqOk m 12 1308 492) {j k : Nat} (hj : j < m.n) (hk : k ≤ m.n) : Wd (wt m j k) :=
  wd_small (k := 4) (l := 13) (wt_part h q hj hk) (by decide) (by decide) (by decide)
theorem wt_pos (q : EqOk m 12 1308 492) {j : Nat} (hj : j < m.n) : 0 < wt m j m.n := by
  have d := q.dom j hj
  have e : sm m.n (fun i => if i = j then 0 else if m.ow i = m.ow j then m.cr i j + m.cr i j else m.cr i j) ≤ sm m.n (fun i => 2 * m.cr j i) := sm_le fun i hi => by
    have p := q.pos j i hj hi
    have s := q.sym i j hi hj
    split
    · grind
    · split <;> grind
  rw [sm_mull] at e
  unfold wt
  grind
theorem weight_eq (h : MkOk m 12 1308) (q : EqOk m 12 1308 492) (hc : VsOk m vs) {j : Nat} (hj : j < m.n) : m__law_weight [.lst (prodL m), .lst (vs.map rivD), .int j] = .ok (rq (wt m j m.n)) := by
  have n6 := h.n6
  have x1 := ix_prod hj
  have t := ltimes_w wd_two (h.wd (h.bo j hj))
  simp only [fIx_lst] at x1
  have go := forL_range (i := 4) (s1 := b__law_weight_L0) (fun k => [.lst (prodL m), .lst (vs.map rivD), .int j, rq (wt m j k), .non, .non]) m.n fun k hk => .inl (by
    have x2 := ix_prod hk
    have lc := lcross_eq (vs := vs) (s := m.nm k) (t := m.nm j) hc.v (hc.s k hk) (hc.s j hj)
    rw [← hc.c k j hk hj] at lc
    have wc := h.wd (h.bx k j hk hj)
    simp only [fIx_lst] at x2
    have e0 : wt m j (k + 1) = wt m j k - (if k = j then 0 else if m.ow k = m.ow j then m.cr k j + m.cr k j else m.cr k j) := by
      unfold wt
      rw [sm_succ]
      grind
    have s1 := lsub_w (wt_wd h q hj (k := k) (by omega)) wc
    unfold b__law_weight_L0
    by_cases e : k = j
    · subst e
      have e3 : wt m k (k + 1) = wt m k k := by rw [e0, if_pos rfl]; grind
      simp [e3]
    · have e2 : ¬ (k : Int) = (j : Int) := by omega
      rw [if_neg e] at e0
      by_cases o : m.ow k = m.ow j
      · rw [if_pos o] at e0
        have w1 : Wd (wt m j k - m.cr k j) := by
          have c := ((wt_part h q hj (k := k) (by omega)).sub (q.mx k j hk hj) (by decide))
          exact wd_small (k := 4) (l := 14) c (by decide) (by decide) (by decide)
        have s2 := lsub_w w1 wc
        have e4 : wt m j k - m.cr k j - m.cr k j = wt m j (k + 1) := by rw [e0]; grind
        rw [e4] at s2
        simp [e2, x1, x2, prd, lc, s1, s2, o]
      · rw [if_neg o] at e0
        simp [e2, x1, x2, prd, lc, s1, o, e0])
  have e0 : wt m j 0 = 2 * m.o j := by unfold wt; rw [sm_zero]; grind
  rw [e0] at go
  have rg := mRng1_ok (ma := mCons (mCB fLen (mCons (mVar 0) mNil)) mNil) (ρ := [.lst (prodL m), .lst (vs.map rivD), .int j, rq (2 * m.o j), .non, .non]) (ρ1 := [.lst (prodL m), .lst (vs.map rivD), .int j, rq (2 * m.o j), .non, .non]) (n := m.n) (by simp [prodL_len]) (by omega)
  unfold m__law_weight
  rw [mDef_eq]
  unfold b__law_weight
  simp [-mRng_eq, -rng1_eq, x1, prd, rq_two, t, rg, go]
theorem pr_mix {E C F B : Nat} {y t : Nat → Rat} (hp : PrOk m x E C) (hE : E < 2 ^ 940) (hC : C < 2 ^ 5000) (F0 : 0 < F) (hF : F < 2 ^ 50) (hB : B < 2 ^ 50) (hy : ∀ i, i < m.n → y i = x i + t i) (ht : ∀ i, i < m.n → Cn F B (t i)) :
    PrOk m y (E * F) (C * F + B * E) := by
  refine ⟨Nat.mul_pos hp.E0 F0, le_pow (mul_bits hE hF), ?_, fun i hi => ?_⟩
  · have a := mul_bits hC hF
    have b := mul_bits hB hE
    have c := add_lt (le_pow a (l := 6000)) (le_pow b (l := 6000))
    exact le_pow c
  · rw [hy i hi]
    have a := (hp.bp i hi).wider F0
    have b := (ht i hi).wider hp.E0
    rw [Nat.mul_comm F E] at b
    exact a.add b (Nat.mul_pos hp.E0 F0)
/-! ### the changes -/
def chD (c : Int) : Int := 1 + (c.fdiv 200).fmod 1000
def chPart (c : Int) : Rat := Rat.divInt ((c.fdiv 5).fmod 41 - 20) (chD c)
def chP (c : Int) (n : Nat) : Nat := ((c.fdiv 3).fmod n).toNat
def chS (c : Int) (n : Nat) : Nat := ((c.fdiv 18).fmod n).toNat
def chF (m : Mk) (x : Nat → Rat) (c : Int) : Nat → Rat :=
  if c.fmod 3 = 0 then put x (chP c m.n) (x (chP c m.n) + chPart c)
  else if c.fmod 3 = 1 then fun k => x k + chPart c * Rat.divInt (k + 1) 3
  else if chP c m.n = chS c m.n then x
  else put (put x (chP c m.n) (x (chP c m.n) + chPart c / wt m (chP c m.n) m.n)) (chS c m.n) (x (chS c m.n) - chPart c / wt m (chS c m.n) m.n)
theorem chD_pos (c : Int) : 0 < chD c ∧ (chD c).toNat < 2 ^ 10 ∧ 0 < (chD c).toNat ∧ ((chD c).toNat : Int) = chD c := by
  have := fmod_lt (i := c.fdiv 200) (j := 1000) (by decide)
  unfold chD
  have e : (2 : Nat) ^ 10 = 1024 := by decide
  omega
theorem chPart_cn (c : Int) : Cn (chD c).toNat 20 (chPart c) := by
  have := fmod_lt (i := c.fdiv 5) (j := 41) (by decide)
  refine ⟨(c.fdiv 5).fmod 41 - 20, ?_, by omega⟩
  rw [(chD_pos c).2.2.2]
  rfl
theorem chP_lt (c : Int) {n : Nat} (h : 0 < n) : chP c n < n ∧ ((chP c n : Nat) : Int) = (c.fdiv 3).fmod n := by
  have := fmod_lt (i := c.fdiv 3) (j := n) (by omega)
  unfold chP
  omega
theorem chS_lt (c : Int) {n : Nat} (h : 0 < n) : chS c n < n ∧ ((chS c n : Nat) : Int) = (c.fdiv 18).fmod n := by
  have := fmod_lt (i := c.fdiv 18) (j := n) (by omega)
  unfold chS
  omega
theorem chPart_wd (c : Int) : Wd (chPart c) ∧ (chPart c).den < 2 ^ 4000 := by
  have w : Wd (chPart c) := wd_small (k := 10) (l := 5) (chPart_cn c) (chD_pos c).2.2.1 (chD_pos c).2.1 (by decide)
  exact ⟨w, w.d⟩
theorem div_one {a b : Rat} : a / b = a * (1 / b) := by grind
theorem ch_ok {E C : Nat} (h : MkOk m 12 1308) (q : EqOk m 12 1308 492) (hp : PrOk m x E C) (hE : E < 2 ^ 940) (hC : C < 2 ^ 5000) (c : Int) : ∃ E' C', PrOk m (chF m x c) E' C' := by
  have n0 : 0 < m.n := h.n1
  have n6 := h.n6
  obtain ⟨d0, d1, d2, _⟩ := chD_pos c
  have pc := chPart_cn c
  have pl := (chP_lt c n0).1
  have sl := (chS_lt c n0).1
  unfold chF
  split
  · refine ⟨_, _, pr_mix (F := (chD c).toNat) (B := 20) (t := fun i => if i = chP c m.n then chPart c else 0) hp hE hC d2 (le_pow d1) (by decide) (fun i hi => ?_) fun i hi => ?_⟩
    · unfold put
      by_cases e : i = chP c m.n
      · rw [if_pos e, if_pos e, e]
      · rw [if_neg e, if_neg e, Rat.add_zero]
    · split
      · exact pc
      · exact .zero
  · split
    · refine ⟨_, _, pr_mix (F := (chD c).toNat * 3) (B := 20 * 6) (t := fun k => chPart c * Rat.divInt (k + 1) 3) hp hE hC (by omega) (le_pow (mul_bits d1 (show 3 < 2 ^ 2 by decide))) (by decide) (fun i hi => rfl) fun i hi => ?_⟩
      refine pc.mul ⟨(i : Int) + 1, rfl, by omega⟩
    · split
      · exact ⟨E, C, hp⟩
      · rename_i ne
        obtain ⟨k1, a1, a2, a3⟩ := Cn.inv (wt_part h q pl (Nat.le_refl _)) (by decide) (wt_pos q pl)
        obtain ⟨k2, b1, b2, b3⟩ := Cn.inv (wt_part h q sl (Nat.le_refl _)) (by decide) (wt_pos q sl)
        have l1 : k1 < 2 ^ 13 := Nat.lt_of_le_of_lt a2 (by decide)
        have l2 : k2 < 2 ^ 13 := Nat.lt_of_le_of_lt b2 (by decide)
        have B1 : k1 ≤ 8000 := a2
        have c1 : Cn ((chD c).toNat * k1 * k2) (20 * 12 * 8000) (chPart c / wt m (chP c m.n) m.n) := by
          rw [div_one]
          exact ((pc.mul a3).wider b1).mono (Nat.mul_le_mul (Nat.le_refl _) b2)
        have c2 : Cn ((chD c).toNat * k1 * k2) (20 * 12 * 8000) (chPart c / wt m (chS c m.n) m.n) := by
          rw [div_one, show (chD c).toNat * k1 * k2 = (chD c).toNat * k2 * k1 by rw [Nat.mul_assoc, Nat.mul_comm k1, Nat.mul_assoc]]
          exact ((pc.mul b3).wider a1).mono (Nat.mul_le_mul (Nat.le_refl _) a2)
        refine ⟨_, _, pr_mix (F := (chD c).toNat * k1 * k2) (B := 20 * 12 * 8000) (t := fun i => if i = chS c m.n then -(chPart c / wt m (chS c m.n) m.n) else if i = chP c m.n then chPart c / wt m (chP c m.n) m.n else 0) hp hE hC
          (Nat.mul_pos (Nat.mul_pos d2 a1) b1) (le_pow (mul_bits (mul_bits d1 l1) l2)) (by decide) (fun i hi => ?_) fun i hi => ?_⟩
        · unfold put
          by_cases e : i = chS c m.n
          · rw [if_pos e, if_pos e, e, Rat.sub_eq_add_neg]
          · rw [if_neg e, if_neg e]
            by_cases e2 : i = chP c m.n
            · rw [if_pos e2, if_pos e2, e2]
            · rw [if_neg e2, if_neg e2, Rat.add_zero]
        · split
          · exact c2.neg
          · split
            · exact c1
            · exact .zero
theorem fIxO_rql {xs : List Rat} {y : MR.D} : fIxO (rql xs) y = fIx (rql xs) y := rfl
theorem cn_num {D B : Nat} {w : Rat} (h : Cn D B w) (D0 : 0 < D) : w.num.natAbs ≤ B := by
  obtain ⟨k, rfl, hk⟩ := h
  exact Nat.le_trans (divInt_n (by omega)) hk
theorem asLst_rql {xs : List Rat} : asLst (rql xs) = some (xs.map rq) := rfl
theorem set_rowL {n k : Nat} {f : Nat → Rat} {v : Rat} (hk : k < n) : setD ((rowL n f).map rq) (k : Int) (rq v) = some ((rowL n (put f k v)).map rq) := by
  rw [setD_nat (by simpa [rowL] using hk), rowL_put]
theorem change_eq {E C : Nat} (h : MkOk m 12 1308) (q : EqOk m 12 1308 492) (hc : VsOk m vs) (hp : PrOk m x E C) (hE : E < 2 ^ 940) (hC : C < 2 ^ 5000) (c : Int) :
    m__law_change [.lst (prodL m), .lst (vs.map rivD), rql (rowL m.n x), .int c] = .ok (rql (rowL m.n (chF m x c))) := by
  have n0 : 0 < m.n := h.n1
  have n6 := h.n6
  have nz : (m.n : Int) ≠ 0 := by omega
  obtain ⟨d0, d1, d2, d3⟩ := chD_pos c
  have pc := chPart_cn c
  obtain ⟨pl, pe⟩ := chP_lt c n0
  obtain ⟨sl, se⟩ := chS_lt c n0
  obtain ⟨pw, pd⟩ := chPart_wd c
  have v3 := small_div (c := c) (j := 3) (by decide) (by decide)
  have v18 := small_div (c := c) (j := 18) (by decide) (by decide)
  have v5 := small_div (c := c) (j := 5) (by decide) (by decide)
  have v200 := small_div (c := c) (j := 200) (by decide) (by decide)
  have rt := lratio_w (n := (c.fdiv 5).fmod 41 - 20) (d := chD c) d0 (le_pow (k := 10) (by omega))
  rw [show Rat.divInt ((c.fdiv 5).fmod 41 - 20) (chD c) = chPart c from rfl] at rt
  unfold chD at rt
  have wx : ∀ i, i < m.n → Wd (x i) := fun i hi => hp.wd hi
  have px := ix_rowL (f := x) pl
  have sx := ix_rowL (f := x) sl
  have d40 : 2 ^ 940 ≤ 2 ^ 4000 := Nat.pow_le_pow_right (by decide) (by decide)
  have mm : ∀ i : Int, CModX i m.n := fun i => nz
  unfold m__law_change
  rw [mDef_eq]
  unfold b__law_change chF
  by_cases e0 : c.fmod 3 = 0
  · have a := ladd_w (wx _ pl) pw
    have st := set_rowL (f := x) (v := x (chP c m.n) + chPart c) pl
    rw [if_pos e0]
    simp [v3, v18, v5, v200, modx, mm, rowL_len, rt, e0, ← pe, ← se, px, a, fIxO_rql, asLst_rql, st]
    rfl
  · rw [if_neg e0]
    by_cases e1 : c.fmod 3 = 1
    · rw [if_pos e1]
      have go := forL_range (i := 9) (s1 := b__law_change_L0) (fun k => [.non, .non, rql (rowL m.n x), .non, rql (rowL m.n fun i => if i < k then x i + chPart c * Rat.divInt (i + 1) 3 else x i), .non, .non, .non, rq (chPart c), .non]) m.n fun k hk => .inl (by
        have t := ltimes_raw (x := chPart c) (n := (k : Int) + 1) (d := 3) pw (le_pow (k := 10) (by omega)) (by decide) (by decide)
        have w2 : Wd (chPart c * Rat.divInt ((k : Int) + 1) 3) := wd_small (k := 12) (l := 10) (pc.mul (D' := 3) (C := 6) ⟨(k : Int) + 1, rfl, by omega⟩) (Nat.mul_pos d2 (by decide)) (mul_bits d1 (show 3 < 2 ^ 2 by decide)) (by decide)
        have a := ladd_w (wx k hk) w2
        have ix := ix_rowL (f := fun i => if i < k then x i + chPart c * Rat.divInt (i + 1) 3 else x i) hk
        simp only [Nat.lt_irrefl, if_false] at ix
        have st := set_rowL (f := fun i => if i < k then x i + chPart c * Rat.divInt (i + 1) 3 else x i) (v := x k + chPart c * Rat.divInt ((k : Int) + 1) 3) hk
        have e : put (fun i => if i < k then x i + chPart c * Rat.divInt (i + 1) 3 else x i) k (x k + chPart c * Rat.divInt ((k : Int) + 1) 3) = fun i => if i < k + 1 then x i + chPart c * Rat.divInt (i + 1) 3 else x i := by
          funext i
          unfold put
          by_cases q1 : i = k
          · subst q1
            simp
          · by_cases q2 : i < k
            · have : i < k + 1 := by omega
              simp [q1, q2, this]
            · have : ¬ i < k + 1 := by omega
              simp [q1, q2, this]
        rw [e] at st
        unfold b__law_change_L0
        simp [ix, t, a, fIxO_rql, asLst_rql, st]
        rfl)
      simp only [Nat.not_lt_zero, if_false] at go
      have e9 : rowL m.n (fun i => if i < m.n then x i + chPart c * Rat.divInt (i + 1) 3 else x i) = rowL m.n fun k => x k + chPart c * Rat.divInt (k + 1) 3 := rowL_congr fun i hi => if_pos hi
      rw [e9] at go
      have rg := mRng1_ok (ma := mCons (mCB fLen (mCons (mVar 2) mNil)) mNil) (ρ := [.non, .non, rql (rowL m.n x), .non, rql (rowL m.n x), .non, .non, .non, rq (chPart c), .non]) (ρ1 := [.non, .non, rql (rowL m.n x), .non, rql (rowL m.n x), .non, .non, .non, rq (chPart c), .non]) (n := m.n) (by simp [rowL_len]) (by omega)
      simp [-mRng_eq, -rng1_eq, v3, v18, v5, v200, modx, mm, rowL_len, rt, e0, e1, ← pe, ← se, rg, go]
    · rw [if_neg e1]
      by_cases ep : chP c m.n = chS c m.n
      · rw [if_pos ep]
        simp [v3, v18, v5, v200, modx, mm, rowL_len, rt, e0, e1, ← pe, ← se, ep]
      · rw [if_neg ep]
        have w1 := weight_eq h q hc pl
        have w2 := weight_eq h q hc sl
        have cn1 := wt_part h q pl (Nat.le_refl _)
        have cn2 := wt_part h q sl (Nat.le_refl _)
        have ww1 := wt_wd h q pl (Nat.le_refl _)
        have ww2 := wt_wd h q sl (Nat.le_refl _)
        have o1 := lover_w (x := chPart c) (y := wt m (chP c m.n) m.n) pw (Nat.lt_of_le_of_lt (cn_num cn1 (by decide)) (by decide)) ww1.d (wt_pos q pl) pd
        have o2 := lover_w (x := chPart c) (y := wt m (chS c m.n) m.n) pw (Nat.lt_of_le_of_lt (cn_num cn2 (by decide)) (by decide)) ww2.d (wt_pos q sl) pd
        obtain ⟨k1, a1, a2, a3⟩ := Cn.inv cn1 (by decide) (wt_pos q pl)
        obtain ⟨k2, b1, b2, b3⟩ := Cn.inv cn2 (by decide) (wt_pos q sl)
        have l1 : k1 < 2 ^ 13 := Nat.lt_of_le_of_lt a2 (by decide)
        have l2 : k2 < 2 ^ 13 := Nat.lt_of_le_of_lt b2 (by decide)
        have y1 : Wd (chPart c / wt m (chP c m.n) m.n) := by
          rw [div_one]
          exact wd_small (l := 10) (pc.mul a3) (Nat.mul_pos d2 a1) (mul_bits d1 l1) (by decide)
        have y2 : Wd (chPart c / wt m (chS c m.n) m.n) := by
          rw [div_one]
          exact wd_small (l := 10) (pc.mul b3) (Nat.mul_pos d2 b1) (mul_bits d1 l2) (by decide)
        have s1 := ladd_w (wx _ pl) y1
        have s2 := lsub_w (wx _ sl) y2
        have ix2 := ix_rowL (f := put x (chP c m.n) (x (chP c m.n) + chPart c / wt m (chP c m.n) m.n)) sl
        have e5 : put x (chP c m.n) (x (chP c m.n) + chPart c / wt m (chP c m.n) m.n) (chS c m.n) = x (chS c m.n) := if_neg fun z => ep z.symm
        rw [e5] at ix2
        have t1 := set_rowL (f := x) (v := x (chP c m.n) + chPart c / wt m (chP c m.n) m.n) pl
        have t2 := set_rowL (f := put x (chP c m.n) (x (chP c m.n) + chPart c / wt m (chP c m.n) m.n)) (v := x (chS c m.n) - chPart c / wt m (chS c m.n) m.n) sl
        have ne : ¬ ((chP c m.n : Nat) : Int) = (chS c m.n : Int) := by omega
        simp [v3, v18, v5, v200, modx, mm, rowL_len, rt, e0, e1, ← pe, ← se, ep, ne, px, w1, o1, s1, fIxO_rql, asLst_rql, t1, rql_of, w2, o2, ix2, s2, t2]
/-! ### the law -/
theorem head_eq {d : MR.D} {xs : List Rat} {a b c e : MR.D} (hw : ∀ y ∈ xs, Wd y) : forL (bTup 2 (bCons (bName 5) (bCons (bName 6) bNil))) b_law_L0 (xs.map rq) [a, b, c, d, e, .non, .non, .non, .non, .non, .non, .non, .non] = .nx [a, b, c, d, e, .non, .non, .non, .non, .non, .non, .non, .non] := forL_same fun v hv => by
  obtain ⟨y, hy, rfl⟩ := List.mem_map.mp hv
  have w := hw y hy
  have dp : (0 : Int) < y.den := den_pos y
  have rt := lratio_w (n := y.num) (d := y.den) dp (p2 (k := 4000) w.dI)
  rw [Rat.num_divInt_den] at rt
  have ge : ¬ (y.den : Int) < 1 := by omega
  have e : fNe (rq y) (rq y) = some false := by rw [fNe_rq]; simp
  refine ⟨_, rfl, .inl ?_⟩
  unfold b_law_L0
  simp [ge, rt, e]
theorem fm_append {me : ME} {a : MA} {ρ : List MR.D} {ds : List MR.D} {d : MR.D} (hm : me ρ = .ok (.lst ds) ρ) (ha : a ρ = .ok [d] ρ) (hl : ds.length < 1000000) : mFM me a gAppend ρ = .ok .non ρ := by
  unfold mFM
  rw [hm]
  show (if kindOk shL (.lst ds) = true then _ else _) = _
  rw [if_pos (show kindOk shL (.lst ds) = true from rfl), ha]
  show (match (if ds.length < 1000000 then some (MR.D.non, some (MR.D.lst (ds ++ [d]))) else none : Option (MR.D × Option MR.D)) with | none => RR.bad | some (z, _) => RR.ok z ρ) = _
  rw [if_pos hl]
theorem turn_eq {E C : Nat} (h : MkOk m 12 1308) (q : EqOk m 12 1308 492) (hc : VsOk m vs) (hp : PrOk m x E C) (hE : E < 2 ^ 940) (hC : C < 2 ^ 5000)
    (hx : ∀ r, r < m.n → sm m.n (fun c => eqM m r c * x c) = eqV m r) {s : MR.D} {c : Int} :
    b_law_L1 [s, .lst (prodL m), .lst (vs.map rivD), mkD m, rql (rowL m.n x), .non, .non, .int c, .non, .non, .non, .non, .non] = .nx [s, .lst (prodL m), .lst (vs.map rivD), mkD m, rql (rowL m.n x), .non, .non, .non, .non, .non, .non, .non, .non] := by
  have ce := change_eq h q hc hp hE hC c
  obtain ⟨E', C', hp'⟩ := ch_ok h q hp hE hC c
  generalize chF m x c = y at ce hp'
  have jd := judge_eq h q hp' hx
  have lo : fListOf [rql (rowL m.n y)] = some (rql (rowL m.n y)) := rfl
  unfold b_law_L1
  generalize hb : decide (rowL m.n y = rowL m.n x) = b at jd
  have e1 : fEq (rql (rowL m.n y)) (rql (rowL m.n x)) = some b := by rw [fEq_rql, hb]
  have e2 : fNe (rql (rowL m.n y)) (rql (rowL m.n y)) = some false := by rw [fNe_rql]; simp
  cases b <;> simp [ce, lo, jd, e1, e2]
theorem due_eq {a b c e f : MR.D} {ys : List Rat} (hw : ∀ y ∈ ys, Wd y) (hl : ys.length ≤ 6) (hd : RM.m__law_demands [a, b, c] = .ok (rql ys)) :
    b_law_C0 [e, a, b, f, c, .non, .non, .non, .non, .non, .non, .non, .non] = .ok (rql (ys.filter fun y => !decide (0 < y))) [e, a, b, f, c, .non, .non, .non, .non, .non, .non, .non, .non] := by
  have go : ∀ zs : List Rat, (∀ y ∈ zs, Wd y) → ∀ acc : List Rat, acc.length + zs.length ≤ 6 → lcL (bName 12) (mNot (mTr (mCall RM.m__law_less [] (mCons (mTup (mCons (mC (.int 0)) (mCons (mC (.int 1)) mNil))) (mCons (mVar 12) mNil))))) b_law_C0e [.d, .d, .d, .d, .d, .x, .x, .x, .x, .x, .x, .x, .x] (zs.map rq) (acc.map rq) [e, a, b, f, c, .non, .non, .non, .non, .non, .non, .non, .non] =
      .ok (rql (acc ++ zs.filter fun y => !decide (0 < y))) [e, a, b, f, c, .non, .non, .non, .non, .non, .non, .non, .non] := fun zs => by
    induction zs with
    | nil => intro _ acc _; simp [rql]
    | cons z zs ih =>
      intro hz acc hl
      have l := lless_w wd_zero (hz z List.mem_cons_self)
      have hl' : acc.length + (zs.length + 1) ≤ 6 := hl
      have lt : (acc.map rq).length < 1000000 := by rw [List.length_map]; omega
      rw [List.map_cons]
      unfold lcL b_law_C0e
      have i1 := ih (fun y hy => hz y (List.mem_cons_of_mem _ hy)) acc (by omega)
      have i2 := ih (fun y hy => hz y (List.mem_cons_of_mem _ hy)) (acc ++ [z]) (by simp; omega)
      unfold b_law_C0e at i1 i2
      by_cases q : 0 < z
      · simp [rq_zero, l, q, i1]
      · have lt2 : acc.length < 1000000 := by omega
        simp [rq_zero, l, q]
        simp at i2
        simp [lt2, i2]
  unfold b_law_C0
  have := go ys hw [] (by simpa using hl)
  simp at this
  simp [hd, this]
end
theorem law_ok (ns : List Int) (h : ns.length ≤ 63) (hb : ∀ z ∈ ns, z.natAbs < 2 ^ bitsMost) : m_law [.scr ns] = .ok (.bl true) := by
  have pd := products_drawn ns
  have rv := rvs_drawn ns
  obtain ⟨r, hr, mk⟩ := market_drawn ns
  have ok := dm_ok hr
  have eq := dm_eq (ns := ns) (r := r)
  obtain ⟨x, e, hx, E, C, hp, hE, hC⟩ := equilibrium_eqM ok eq
  have vo : VsOk (dm ns r) (rvs ns) := ⟨fun i j _ _ => rfl, fun v hv => ⟨nm_pl (nmL_nm (rvs_ok v hv).ha), nm_pl (nmL_nm (rvs_ok v hv).hb)⟩, fun i hi => nm_pl (pd_nm hi)⟩
  have ep : (pds ns).map prdD = prodL (dm ns r) := by
    unfold pds prodL
    rw [List.map_map]
    rfl
  rw [ep] at pd mk
  generalize hm : dm ns r = m at *
  have n0 := ok.n1
  have n6 := ok.n6
  have mko := make_ok (c := 0) (gb := RM.mI_Market___init__) (ds := [.lst (prodL m), .lst ((rvs ns).map rivD)]) (dd := []) (x := mkD m) (ρ := [.scr ns, .lst (prodL m), .lst ((rvs ns).map rivD), .non, .non, .non, .non, .non, .non, .non, .non, .non, .non]) mk
  have ap := fm_append (me := mCall RM.m_equilibrium [] (mCons (mVar 3) mNil)) (a := mCons (mTup (mCons (mC (.int 9)) (mCons (mC (.int 1)) mNil))) mNil) (ρ := [.scr ns, .lst (prodL m), .lst ((rvs ns).map rivD), mkD m, rql (rowL m.n x), .non, .non, .non, .non, .non, .non, .non, .non]) (ds := (rowL m.n x).map rq) (d := .tup [.int 9, .int 1])
    (by simp [e]; rfl) (by simp) (by simp [rowL_len]; omega)
  have wx : ∀ y ∈ rowL m.n x, Wd y := fun y hy => by
    obtain ⟨i, hi, rfl⟩ := List.mem_map.mp hy
    exact hp.wd (List.mem_range.mp hi)
  have hd := head_eq (d := mkD m) (a := .scr ns) (b := .lst (prodL m)) (c := .lst ((rvs ns).map rivD)) (e := rql (rowL m.n x)) wx
  have isl : fIsi "list" (rql (rowL m.n x)) = some (.bl true) := isi_lst_list
  have j1 := judge_eq ok eq hp hx
  rw [decide_eq_true rfl] at j1
  have j2 := judge_len ok (ys := rowL m.n x ++ [0]) (by simp [rowL_len])
  have j3 := judge_len ok (ys := (rowL m.n x).drop 1) (by simp [rowL_len]; omega)
  have lo : fListOf [rql (rowL m.n x)] = some (rql (rowL m.n x)) := rfl
  have ad : fAdd (rql (rowL m.n x)) (.lst [rq 0]) = some (rql (rowL m.n x ++ [0])) := by
    show fAdd (.lst ((rowL m.n x).map rq)) (.lst [rq 0]) = _
    rw [fAdd_lst, if_pos (by simp [rowL_len]; exact Nat.le_trans (show m.n + 1 ≤ 7 by omega) (by decide))]
    simp [rql]
  have dr : fSl (some 1) none (rql (rowL m.n x)) = some (rql ((rowL m.n x).drop 1)) := by
    show some (MR.D.lst (cutD ((rowL m.n x).map rq) (some ((1 : Nat) : Int)) none)) = _
    rw [cutD_from, ← List.map_drop]
    rfl
  have cells : ∃ cs : List Int, fAdd (.lst ((cutD ns (some 12) (some 30)).map .int)) (.lst [.int 2, .int 5, .int 20, .int 203, .int 41]) = some (.lst (cs.map .int)) := by
    refine ⟨cutD ns (some 12) (some 30) ++ [2, 5, 20, 203, 41], ?_⟩
    have l : (cutD ns (some 12) (some 30)).length ≤ 63 := by
      refine Nat.le_trans ?_ h
      unfold cutD
      simp
      omega
    rw [fAdd_lst, if_pos (by simp; exact Nat.le_trans (show _ ≤ 68 by omega) (by decide))]
    simp
  obtain ⟨cs, hcs⟩ := cells
  have go : forL (bName 7) b_law_L1 (cs.map .int) [.scr ns, .lst (prodL m), .lst ((rvs ns).map rivD), mkD m, rql (rowL m.n x), .non, .non, .non, .non, .non, .non, .non, .non] = .nx [.scr ns, .lst (prodL m), .lst ((rvs ns).map rivD), mkD m, rql (rowL m.n x), .non, .non, .non, .non, .non, .non, .non, .non] := forL_same fun d hd => by
    obtain ⟨c, _, rfl⟩ := List.mem_map.mp hd
    exact ⟨_, rfl, .inl (turn_eq ok eq vo hp hE hC hx)⟩
  have ld := ldemands_eq ok hp vo
  have wd' : ∀ y ∈ rowL m.n (dem m x), Wd y := fun y hy => by
    obtain ⟨i, hi, rfl⟩ := List.mem_map.mp hy
    exact demw ok hp (List.mem_range.mp hi)
  have du := due_eq (e := .scr ns) (f := mkD m) wd' (by simp [rowL_len]; omega) ld
  obtain ⟨b, lv, lb⟩ := lively_eq ok hp e
  have eb : fEq (rql ((rowL m.n (dem m x)).filter fun y => !decide (0 < y))) (.lst []) = some b := by
    rw [show (MR.D.lst [] : MR.D) = rql [] from rfl, fEq_rql]
    congr 1
    rw [Bool.eq_iff_iff, decide_eq_true_eq, List.filter_eq_nil_iff, lb]
    simp
  unfold m_law
  rw [mDef_eq]
  unfold b_law
  have fs : fSl (some 12) (some 30) (.scr ns) = some (.lst ((cutD ns (some 12) (some 30)).map .int)) := rfl
  rw [List.drop_one] at j3 dr
  simp [pd, rv, mko, e, ap, isl, fNe_rql, hd, lo, j1, rq_zero, ad, j2, dr, j3, fs, hcs, go, du, eb, lv]
  cases b <;> simp
end K41

set_option Elab.async false
set_option linter.all false
set_option maxRecDepth 100000
set_option maxHeartbeats 4000000
/-! W_k41: the walk (printed by emit.py). -/
namespace K41
open PySem L2 MR
def top (i : Nat) : Stmt := PySem.Challenge.pw_rivalprices_k41_prices_are_judged.main.body.getD i (.Pass ⟨0, 0, 0, 0⟩)
def meth (i j : Nat) : Stmt := match top i with
  | .ClassDef _ _ _ body _ _ _ _ _ _ _ => body.getD j (.Pass ⟨0, 0, 0, 0⟩)
  | _ => .Pass ⟨0, 0, 0, 0⟩
/-- what the walk asks of the module -/
structure Txt (K : PySem.W.Frag) (mg : Str → Option Value) (G : Cl) : Prop where
  z_int : mg "int" = none
  z_range : mg "range" = none
  z_len : mg "len" = none
  z_sorted : mg "sorted" = none
  z_abs : mg "abs" = none
  z_isinstance : mg "isinstance" = none
  z_bool : mg "bool" = none
  z_zip : mg "zip" = none
  z_list : mg "list" = none
  z_enumerate : mg "enumerate" = none
  c_ZERO_market : GlobD K mg G "ZERO_market" (.tup [(.int 0), (.int 1)])
  c_TWO : GlobD K mg G "TWO" (.tup [(.int 2), (.int 1)])
  c_ZERO_matrix : GlobD K mg G "ZERO_matrix" (.tup [(.int 0), (.int 1)])
  c_LETTERS : GlobD K mg G "LETTERS" (.str (Str.ofString "abcdefghijklmnopqrstuvwxyz"))
  c_MOST_PRODUCTS : GlobD K mg G "MOST_PRODUCTS" (.int 6)
  e_InvalidRatio : ExcO K mg G "InvalidRatio" .ratio
  e_Singular : ExcO K mg G "Singular" .singular
  e_InvalidMarket : ExcO K mg G "InvalidMarket" .market
  e_DuplicateName : ExcO K mg G "DuplicateName" .dup
  e_UnknownName : ExcO K mg G "UnknownName" .unknown
  cl_0 : ClsO K G 0
  f_0__crosses : FldO K G 0 "_crosses"
  f_0_products : FldO K G 0 "products"
section
variable {P : Program} {w : World} {K : PySem.W.Frag} {mg : Str → Option Value} {base : Heap} {G : Cl}
theorem sc__law_words : FnScope ["_law_cell_here", "_law_letters", "_law_base", "_law_k", "_law_at", "_law_start"] ["_law_cell_here"] (defScope (top 41)) := ⟨rfl, rfl, rfl, by decide +kernel, rfl, by decide +kernel, by decide +kernel⟩
theorem okm__law_words {f : Addr} {fd : FuncData} (F : Fun K "_law_words" "_law_words" (top 41) f fd) (T : Txt K mg G) : FnOk P w K mg base (L2.CX P w) 1 f fd ["_law_cell_here"] (spP K G 1 .o RM.m__law_words) := by
  have sc := sc__law_words
  exact fn_ok (μe := []) F sc rfl rfl fun cdv A outer s H E hr => (jss_cons (js_asg (i := 1) sc.nd je_str)
  (jss_cons (js_asg (i := 2) sc.nd je_str)
  (jss_cons (js_for po_of (ji_rng1 T.z_range (ja_cons (je_mod (je_ct call_intOf cd_int T.z_int (ja_cons (je_var 0) ja_nil)) je_int) ja_nil)) (jg_name (i := 3) sc.nd)
  (jss_weak (μ' := [.d, .d, .d, .x, .x, .x]) (jss_one (js_asg (i := 2) sc.nd (je_add (je_var 2) (je_ix (je_var 1) (je_mod (je_add (je_div (je_ct call_intOf cd_int T.z_int (ja_cons (je_var 0) ja_nil)) (je_add je_int (je_var 3))) (je_mul je_int (je_var 3))) je_int)))))))
  (jss_cons (js_asg (i := 4) sc.nd (je_mod (je_div (je_ct call_intOf cd_int T.z_int (ja_cons (je_var 0) ja_nil)) je_int) (je_add (je_cb call_len cd_len T.z_len (ja_cons (je_var 2) ja_nil)) je_int)))
  (jss_cons (js_asg (i := 5) sc.nd (je_mod (je_div (je_ct call_intOf cd_int T.z_int (ja_cons (je_var 0) ja_nil)) je_int) je_int))
  (jss_one (js_ret (je_sorted (r := .o) T.z_sorted (ja_cons (je_frz (je_lcO (own := [("_law_k", 3)]) (vs := [3]) sc.nd (ji_rng1 T.z_range (ja_cons je_int ja_nil)) (by dsimp only [cxOf, Cx.blk, compEnvC, PyProof.Rows.envOfC]; (try simp only [relabel_eq]); decide +kernel) (fun _ _ _ _ _ => (jgc_name (i := 3) sc.nd)) (fun _ _ _ _ _ => jts_nil) (fun _ _ _ _ _ => (je_add (je_add (je_slice (je_var 2) jo_none (jo_some (je_var 4))) (je_ix (je_var 1) (je_mod (je_add (je_var 5) (je_mul je_int (je_var 3))) je_int))) (je_slice (je_var 2) (jo_some (je_var 4)) jo_none))))) ja_nil)))))))))
theorem sc__law_cell : FnScope ["_law_script", "_law_k"] ["_law_script", "_law_k"] (defScope (top 40)) := ⟨rfl, rfl, rfl, by decide +kernel, rfl, by decide +kernel, by decide +kernel⟩
theorem okm__law_cell {f : Addr} {fd : FuncData} (F : Fun K "_law_cell" "_law_cell" (top 40) f fd) (T : Txt K mg G) : FnOk P w K mg base (L2.CX P w) 1 f fd ["_law_script", "_law_k"] (spP K G 2 .d RM.m__law_cell) := by
  have sc := sc__law_cell
  exact fn_ok (μe := []) F sc rfl rfl fun cdv A outer s H E hr => (jss_cons (js_if (jt_cmp opr_lt opb_lt (je_var 1) (je_cb call_len cd_len T.z_len (ja_cons (je_var 0) ja_nil)))
  (jss_one (js_ret (je_ct call_intOf cd_int T.z_int (ja_cons (je_ix (je_var 0) (je_var 1)) ja_nil))))
  (jss_weak (μ' := [.x, .d]) jss_nil))
  (jss_one (js_ret (je_add (je_mul je_int (je_var 1)) je_int))))
theorem sc__law_names : FnScope ["_law_script"] ["_law_script"] (defScope (top 42)) := ⟨rfl, rfl, rfl, by decide +kernel, rfl, by decide +kernel, by decide +kernel⟩
theorem okm__law_names {f : Addr} {fd : FuncData} (F : Fun K "_law_names" "_law_names" (top 42) f fd) (T : Txt K mg G) (d__law_cell : DefO P w K mg base G "_law_cell" 2 .d RM.m__law_cell 1 []) (d__law_words : DefO P w K mg base G "_law_words" 1 .o RM.m__law_words 1 []) : FnOk P w K mg base (L2.CX P w) 2 f fd ["_law_script"] (spP K G 1 .d RM.m__law_names) := by
  have sc := sc__law_names
  exact fn_ok (μe := []) F sc rfl rfl fun cdv A outer s H E hr => (jss_one (js_ret (je_slice (je_frz (je_call d__law_words (hr.mono (by decide)) tk_of (ja_cons (je_call d__law_cell (hr.mono (by decide)) tk_of (ja_cons (je_var 0) (ja_cons je_int ja_nil)) (alen_cons (alen_cons alen_nil))) ja_nil) (alen_cons alen_nil))) jo_none (jo_some (je_add je_int (je_mod (je_call d__law_cell (hr.mono (by decide)) tk_of (ja_cons (je_var 0) (ja_cons je_int ja_nil)) (alen_cons (alen_cons alen_nil))) je_int))))))
theorem sc__law_ratio : FnScope ["_law_n", "_law_d", "_law_a", "_law_b"] ["_law_n", "_law_d"] (defScope (top 35)) := ⟨rfl, rfl, rfl, by decide +kernel, rfl, by decide +kernel, by decide +kernel⟩
theorem okm__law_ratio {f : Addr} {fd : FuncData} (F : Fun K "_law_ratio" "_law_ratio" (top 35) f fd) (T : Txt K mg G) : FnOk P w K mg base (L2.CX P w) 1 f fd ["_law_n", "_law_d"] (spP K G 2 .d RM.m__law_ratio) := by
  have sc := sc__law_ratio
  exact fn_ok (μe := []) F sc rfl rfl fun cdv A outer s H E hr => (jss_cons (js_asg (i := 2) sc.nd (je_cb call_abs cd_abs T.z_abs (ja_cons (je_var 0) ja_nil)))
  (jss_cons (js_asg (i := 3) sc.nd (je_cb call_abs cd_abs T.z_abs (ja_cons (je_var 1) ja_nil)))
  (jss_cons (js_while (fun ρ => (ρ.getD 3 .non).nat + 1) po_of (jt_cmp opr_gt opb_gt (je_var 3) je_int)
  (jss_one (js_par (i := 2) (j := 3) sc.nd (je_var 3) (je_mod (je_ct call_intOf cd_int T.z_int (ja_cons (je_var 2) ja_nil)) (je_var 3)))))
  (jss_cons (js_if (jt_cmp opr_lt opb_lt (je_var 1) je_int)
  (jss_weak (μ' := [.d, .d, .d, .x]) (jss_one (js_asg (i := 2) sc.nd (je_sub je_int (je_var 2)))))
  (jss_weak (μ' := [.d, .d, .d, .x]) jss_nil))
  (jss_one (js_ret (je_tup (ja_cons (je_div (je_var 0) (je_var 2)) (ja_cons (je_div (je_var 1) (je_var 2)) ja_nil)))))))))
theorem sc__law_rivalries : FnScope ["_law_script", "_law_names_here", "_law_rows", "_law_a", "_law_b", "_law_cell_here"] ["_law_script"] (defScope (top 45)) := ⟨rfl, rfl, rfl, by decide +kernel, rfl, by decide +kernel, by decide +kernel⟩
theorem okm__law_rivalries {f : Addr} {fd : FuncData} (F : Fun K "_law_rivalries" "_law_rivalries" (top 45) f fd) (T : Txt K mg G) (d__law_names : DefO P w K mg base G "_law_names" 1 .d RM.m__law_names 2 []) (d__law_cell : DefO P w K mg base G "_law_cell" 2 .d RM.m__law_cell 1 []) (d__law_ratio : DefO P w K mg base G "_law_ratio" 2 .d RM.m__law_ratio 1 []) : FnOk P w K mg base (L2.CX P w) 3 f fd ["_law_script"] (spP K G 1 .o RM.m__law_rivalries) := by
  have sc := sc__law_rivalries
  exact fn_ok (μe := []) F sc rfl rfl fun cdv A outer s H E hr => (jss_cons (js_asg (i := 1) sc.nd (je_call d__law_names (hr.mono (by decide)) tk_of (ja_cons (je_var 0) ja_nil) (alen_cons alen_nil)))
  (jss_cons (js_asg (i := 2) sc.nd (je_lstO ja_nil))
  (jss_cons (js_for po_of (ji_rng1 T.z_range (ja_cons (je_cb call_len cd_len T.z_len (ja_cons (je_var 1) ja_nil)) ja_nil)) (jg_name (i := 3) sc.nd)
  (jss_weak (μ' := [.d, .d, .o, .x, .x, .x]) (jss_one (js_for po_of (ji_rng2 T.z_range (ja_cons (je_add (je_var 3) je_int) (ja_cons (je_cb call_len cd_len T.z_len (ja_cons (je_var 1) ja_nil)) ja_nil))) (jg_name (i := 4) sc.nd)
  (jss_cons (js_asg (i := 5) sc.nd (je_div (je_call d__law_cell (hr.mono (by decide)) tk_of (ja_cons (je_var 0) (ja_cons (je_add je_int (je_var 3)) ja_nil)) (alen_cons (alen_cons alen_nil))) (je_add je_int (je_mul je_int (je_var 4)))))
  (jss_one (js_if (jt_cmp (opr_ne hr.units) opb_ne (je_mod (je_var 5) je_int) je_int)
  (jss_weak (μ' := [.d, .d, .o, .d, .x, .x]) (jss_one (js_app (i := 2) (je_tup (ja_cons (je_ix (je_var 1) (je_var 3)) (ja_cons (je_ix (je_var 1) (je_var 4)) (ja_cons (je_call d__law_ratio (hr.mono (by decide)) tk_of (ja_cons (je_add je_int (je_mod (je_div (je_var 5) je_int) je_int)) (ja_cons (je_add je_int (je_mod (je_div (je_var 5) je_int) je_int)) ja_nil)) (alen_cons (alen_cons alen_nil))) ja_nil)))))))
  (jss_weak (μ' := [.d, .d, .o, .d, .x, .x]) jss_nil))))))))
  (jss_one (js_retO (i := 2))))))
theorem sc__law_add : FnScope ["_law_x", "_law_y"] ["_law_x", "_law_y"] (defScope (top 36)) := ⟨rfl, rfl, rfl, by decide +kernel, rfl, by decide +kernel, by decide +kernel⟩
theorem okm__law_add {f : Addr} {fd : FuncData} (F : Fun K "_law_add" "_law_add" (top 36) f fd) (T : Txt K mg G) (d__law_ratio : DefO P w K mg base G "_law_ratio" 2 .d RM.m__law_ratio 1 []) : FnOk P w K mg base (L2.CX P w) 2 f fd ["_law_x", "_law_y"] (spP K G 2 .d RM.m__law_add) := by
  have sc := sc__law_add
  exact fn_ok (μe := []) F sc rfl rfl fun cdv A outer s H E hr => (jss_one (js_ret (je_call d__law_ratio (hr.mono (by decide)) tk_of (ja_cons (je_add (je_mul (je_ix (je_var 0) je_int) (je_ix (je_var 1) je_int)) (je_mul (je_ix (je_var 1) je_int) (je_ix (je_var 0) je_int))) (ja_cons (je_mul (je_ix (je_var 0) je_int) (je_ix (je_var 1) je_int)) ja_nil)) (alen_cons (alen_cons alen_nil)))))
theorem sc__law_owners : FnScope ["_law_script"] ["_law_script"] (defScope (top 43)) := ⟨rfl, rfl, rfl, by decide +kernel, rfl, by decide +kernel, by decide +kernel⟩
theorem okm__law_owners {f : Addr} {fd : FuncData} (F : Fun K "_law_owners" "_law_owners" (top 43) f fd) (T : Txt K mg G) (d__law_cell : DefO P w K mg base G "_law_cell" 2 .d RM.m__law_cell 1 []) (d__law_words : DefO P w K mg base G "_law_words" 1 .o RM.m__law_words 1 []) : FnOk P w K mg base (L2.CX P w) 2 f fd ["_law_script"] (spP K G 1 .d RM.m__law_owners) := by
  have sc := sc__law_owners
  exact fn_ok (μe := []) F sc rfl rfl fun cdv A outer s H E hr => (jss_one (js_ret (je_slice (je_frz (je_call d__law_words (hr.mono (by decide)) tk_of (ja_cons (je_call d__law_cell (hr.mono (by decide)) tk_of (ja_cons (je_var 0) (ja_cons je_int ja_nil)) (alen_cons (alen_cons alen_nil))) ja_nil) (alen_cons alen_nil))) jo_none (jo_some je_int))))
theorem sc__law_products : FnScope ["_law_script", "_law_names_here", "_law_rows", "_law_k", "_law_cell_here", "_law_total", "_law_one", "_law_other", "_law_cross_here", "_law_own", "_law_owner", "_law_cost"] ["_law_script"] (defScope (top 46)) := ⟨rfl, rfl, rfl, by decide +kernel, rfl, by decide +kernel, by decide +kernel⟩
theorem okm__law_products {f : Addr} {fd : FuncData} (F : Fun K "_law_products" "_law_products" (top 46) f fd) (T : Txt K mg G) (d__law_names : DefO P w K mg base G "_law_names" 1 .d RM.m__law_names 2 []) (d__law_cell : DefO P w K mg base G "_law_cell" 2 .d RM.m__law_cell 1 []) (d__law_rivalries : DefO P w K mg base G "_law_rivalries" 1 .o RM.m__law_rivalries 3 []) (d__law_add : DefO P w K mg base G "_law_add" 2 .d RM.m__law_add 2 []) (d__law_ratio : DefO P w K mg base G "_law_ratio" 2 .d RM.m__law_ratio 1 []) (d__law_owners : DefO P w K mg base G "_law_owners" 1 .d RM.m__law_owners 2 []) : FnOk P w K mg base (L2.CX P w) 4 f fd ["_law_script"] (spP K G 1 .o RM.m__law_products) := by
  have sc := sc__law_products
  exact fn_ok (μe := []) F sc rfl rfl fun cdv A outer s H E hr => (jss_cons (js_asg (i := 1) sc.nd (je_call d__law_names (hr.mono (by decide)) tk_of (ja_cons (je_var 0) ja_nil) (alen_cons alen_nil)))
  (jss_cons (js_asg (i := 2) sc.nd (je_lstO ja_nil))
  (jss_cons (js_for po_of (ji_rng1 T.z_range (ja_cons (je_cb call_len cd_len T.z_len (ja_cons (je_var 1) ja_nil)) ja_nil)) (jg_name (i := 3) sc.nd)
  (jss_weak (μ' := [.d, .d, .o, .x, .x, .x, .x, .x, .x, .x, .x, .x]) (jss_cons (js_asg (i := 4) sc.nd (je_call d__law_cell (hr.mono (by decide)) tk_of (ja_cons (je_var 0) (ja_cons (je_add je_int (je_var 3)) ja_nil)) (alen_cons (alen_cons alen_nil))))
  (jss_cons (js_asg (i := 5) sc.nd (je_tup (ja_cons je_int (ja_cons je_int ja_nil))))
  (jss_cons (js_for po_of (ji_list (je_frz (je_call d__law_rivalries (hr.mono (by decide)) tk_of (ja_cons (je_var 0) ja_nil) (alen_cons alen_nil)))) (jg_tup (jgs_cons (jg_name (i := 6) sc.nd) (jgs_cons (jg_name (i := 7) sc.nd) (jgs_cons (jg_name (i := 8) sc.nd) jgs_nil))))
  (jss_one (js_if (jt_cmp opr_in opb_in (je_ix (je_var 1) (je_var 3)) (je_tup (ja_cons (je_var 6) (ja_cons (je_var 7) ja_nil))))
  (jss_weak (μ' := [.d, .d, .o, .d, .d, .d, .x, .x, .x, .x, .x, .x]) (jss_one (js_asg (i := 5) sc.nd (je_call d__law_add (hr.mono (by decide)) tk_of (ja_cons (je_var 5) (ja_cons (je_var 8) ja_nil)) (alen_cons (alen_cons alen_nil))))))
  (jss_weak (μ' := [.d, .d, .o, .d, .d, .d, .x, .x, .x, .x, .x, .x]) jss_nil))))
  (jss_cons (js_asg (i := 9) sc.nd (je_call d__law_add (hr.mono (by decide)) tk_of (ja_cons (je_var 5) (ja_cons (je_call d__law_ratio (hr.mono (by decide)) tk_of (ja_cons (je_add je_int (je_mod (je_var 4) je_int)) (ja_cons (je_add je_int (je_mod (je_div (je_var 4) je_int) je_int)) ja_nil)) (alen_cons (alen_cons alen_nil))) ja_nil)) (alen_cons (alen_cons alen_nil))))
  (jss_cons (js_asg (i := 10) sc.nd (je_ix (je_call d__law_owners (hr.mono (by decide)) tk_of (ja_cons (je_var 0) ja_nil) (alen_cons alen_nil)) (je_mod (je_div (je_var 4) je_int) je_int)))
  (jss_cons (js_asg (i := 11) sc.nd (je_call d__law_ratio (hr.mono (by decide)) tk_of (ja_cons (je_mod (je_div (je_var 4) je_int) je_int) (ja_cons (je_add je_int (je_mod (je_div (je_var 4) je_int) je_int)) ja_nil)) (alen_cons (alen_cons alen_nil))))
  (jss_one (js_app (i := 2) (je_tup (ja_cons (je_ix (je_var 1) (je_var 3)) (ja_cons (je_var 10) (ja_cons (je_call d__law_ratio (hr.mono (by decide)) tk_of (ja_cons (je_add je_int (je_mod (je_div (je_var 4) je_int) je_int)) (ja_cons (je_add je_int (je_mod (je_div (je_var 4) je_int) je_int)) ja_nil)) (alen_cons (alen_cons alen_nil))) (ja_cons (je_var 9) (ja_cons (je_var 11) ja_nil))))))))))))))))
  (jss_one (js_retO (i := 2))))))
theorem sc_is_integer : FnScope ["value"] ["value"] (defScope (top 9)) := ⟨rfl, rfl, rfl, by decide +kernel, rfl, by decide +kernel, by decide +kernel⟩
theorem okm_is_integer {f : Addr} {fd : FuncData} (F : Fun K "is_integer" "is_integer" (top 9) f fd) (T : Txt K mg G) : FnOk P w K mg base (L2.CX P w) 1 f fd ["value"] (spP K G 1 .d RV.m_is_integer) := by
  have sc := sc_is_integer
  exact fn_ok (μe := []) F sc rfl rfl fun cdv A outer s H E hr => (jss_one (js_ret (je_and (je_isi (je_var 0) T.z_isinstance T.z_int) (je_one (je_not (je_isi (je_var 0) T.z_isinstance T.z_bool))))))
theorem sc_common_divisor : FnScope ["a", "b"] ["a", "b"] (defScope (top 10)) := ⟨rfl, rfl, rfl, by decide +kernel, rfl, by decide +kernel, by decide +kernel⟩
theorem okm_common_divisor {f : Addr} {fd : FuncData} (F : Fun K "common_divisor" "common_divisor" (top 10) f fd) (T : Txt K mg G) : FnOk P w K mg base (L2.CX P w) 1 f fd ["a", "b"] (spP K G 2 .d RV.m_common_divisor) := by
  have sc := sc_common_divisor
  exact fn_ok (μe := []) F sc rfl rfl fun cdv A outer s H E hr => (jss_cons (js_while (fun ρ => (ρ.getD 1 .non).nat + 1) po_of (jt_cmp (opr_ne hr.units) opb_ne (je_var 1) je_int)
  (jss_one (js_par (i := 0) (j := 1) sc.nd (je_var 1) (je_mod (je_var 0) (je_var 1)))))
  (jss_one (js_ret (je_cb call_abs cd_abs T.z_abs (ja_cons (je_var 0) ja_nil)))))
theorem sc_ratio : FnScope ["n", "d", "divisor"] ["n", "d"] (defScope (top 11)) := ⟨rfl, rfl, rfl, by decide +kernel, rfl, by decide +kernel, by decide +kernel⟩
theorem okm_ratio {f : Addr} {fd : FuncData} {dvs : List V} (F : FunD K "ratio" "ratio" (defArgs (top 11)) (defBody (top 11)) (defScope (top 11)) dvs [] f fd) (T : Txt K mg G) (d_is_integer : DefO P w K mg base G "is_integer" 1 .d RV.m_is_integer 1 []) (d_common_divisor : DefO P w K mg base G "common_divisor" 2 .d RV.m_common_divisor 1 []) : FnOk P w K mg base (L2.CX P w) 2 f fd ["n", "d"] (spP K G 2 .d RV.m_ratio) := by
  have sc := sc_ratio
  exact fnD_ok (μe := []) F sc rfl rfl fun cdv A outer s H E hr => (jss_cons (js_if (jw_pt (jw_or (jt_not (jt_tr (je_call d_is_integer (hr.mono (by decide)) tk_of (ja_cons (je_var 0) ja_nil) (alen_cons alen_nil)))) (jw_or (jt_not (jt_tr (je_call d_is_integer (hr.mono (by decide)) tk_of (ja_cons (je_var 1) ja_nil) (alen_cons alen_nil)))) (jw_or1 (jt_cmp opr_lt opb_lt (je_var 1) je_int)))))
  (jss_one (js_raise T.e_InvalidRatio tk_of (ja_cons je_str ja_nil) (alen_cons alen_nil)))
  jss_nil)
  (jss_cons (js_asg (i := 2) sc.nd (je_call d_common_divisor (hr.mono (by decide)) tk_of (ja_cons (je_var 0) (ja_cons (je_var 1) ja_nil)) (alen_cons (alen_cons alen_nil))))
  (jss_one (js_ret (je_tup (ja_cons (je_div (je_var 0) (je_var 2)) (ja_cons (je_div (je_var 1) (je_var 2)) ja_nil)))))))
theorem sc_add : FnScope ["a", "b"] ["a", "b"] (defScope (top 12)) := ⟨rfl, rfl, rfl, by decide +kernel, rfl, by decide +kernel, by decide +kernel⟩
theorem okm_add {f : Addr} {fd : FuncData} (F : Fun K "add" "add" (top 12) f fd) (T : Txt K mg G) (d_ratio : DefO P w K mg base G "ratio" 2 .d RV.m_ratio 2 []) : FnOk P w K mg base (L2.CX P w) 3 f fd ["a", "b"] (spP K G 2 .d RV.m_add) := by
  have sc := sc_add
  exact fn_ok (μe := []) F sc rfl rfl fun cdv A outer s H E hr => (jss_one (js_ret (je_call d_ratio (hr.mono (by decide)) tk_of (ja_cons (je_add (je_mul (je_ix (je_var 0) je_int) (je_ix (je_var 1) je_int)) (je_mul (je_ix (je_var 1) je_int) (je_ix (je_var 0) je_int))) (ja_cons (je_mul (je_ix (je_var 0) je_int) (je_ix (je_var 1) je_int)) ja_nil)) (alen_cons (alen_cons alen_nil)))))
theorem sc_times : FnScope ["a", "b"] ["a", "b"] (defScope (top 14)) := ⟨rfl, rfl, rfl, by decide +kernel, rfl, by decide +kernel, by decide +kernel⟩
theorem okm_times {f : Addr} {fd : FuncData} (F : Fun K "times" "times" (top 14) f fd) (T : Txt K mg G) (d_ratio : DefO P w K mg base G "ratio" 2 .d RV.m_ratio 2 []) : FnOk P w K mg base (L2.CX P w) 3 f fd ["a", "b"] (spP K G 2 .d RV.m_times) := by
  have sc := sc_times
  exact fn_ok (μe := []) F sc rfl rfl fun cdv A outer s H E hr => (jss_one (js_ret (je_call d_ratio (hr.mono (by decide)) tk_of (ja_cons (je_mul (je_ix (je_var 0) je_int) (je_ix (je_var 1) je_int)) (ja_cons (je_mul (je_ix (je_var 0) je_int) (je_ix (je_var 1) je_int)) ja_nil)) (alen_cons (alen_cons alen_nil)))))
theorem sc_sub : FnScope ["a", "b"] ["a", "b"] (defScope (top 13)) := ⟨rfl, rfl, rfl, by decide +kernel, rfl, by decide +kernel, by decide +kernel⟩
theorem okm_sub {f : Addr} {fd : FuncData} (F : Fun K "sub" "sub" (top 13) f fd) (T : Txt K mg G) (d_ratio : DefO P w K mg base G "ratio" 2 .d RV.m_ratio 2 []) : FnOk P w K mg base (L2.CX P w) 3 f fd ["a", "b"] (spP K G 2 .d RV.m_sub) := by
  have sc := sc_sub
  exact fn_ok (μe := []) F sc rfl rfl fun cdv A outer s H E hr => (jss_one (js_ret (je_call d_ratio (hr.mono (by decide)) tk_of (ja_cons (je_sub (je_mul (je_ix (je_var 0) je_int) (je_ix (je_var 1) je_int)) (je_mul (je_ix (je_var 1) je_int) (je_ix (je_var 0) je_int))) (ja_cons (je_mul (je_ix (je_var 0) je_int) (je_ix (je_var 1) je_int)) ja_nil)) (alen_cons (alen_cons alen_nil)))))
theorem sc_Market_cross : FnScope ["self", "one", "other"] ["self", "one", "other"] (defScope (meth 22 7)) := ⟨rfl, rfl, rfl, by decide +kernel, rfl, by decide +kernel, by decide +kernel⟩
theorem okm_Market_cross {f : Addr} {fd : FuncData} (F : Fun K "cross" "Market.cross" (meth 22 7) f fd) (T : Txt K mg G) : FnOk P w K mg base (L2.CX P w) 1 f fd ["self", "one", "other"] (spP K G 3 .d RM.m_Market_cross) := by
  have sc := sc_Market_cross
  exact fn_ok (μe := []) F sc rfl rfl fun cdv A outer s H E hr => (jss_one (js_ret (je_dget2 hr.units (je_fld (je_var 0) T.cl_0 T.f_0__crosses) (jk_tup (ja_cons (je_var 1) (ja_cons (je_var 2) ja_nil))) (je_globD T.c_ZERO_market))))
theorem sc_equations : FnScope ["market", "rows", "right", "name", "owner", "base", "own", "cost", "row", "value", "other", "other_owner", "other_base", "other_own", "other_cost", "cross"] ["market"] (defScope (top 30)) := ⟨rfl, rfl, rfl, by decide +kernel, rfl, by decide +kernel, by decide +kernel⟩
theorem okm_equations {f : Addr} {fd : FuncData} (F : Fun K "equations" "equations" (top 30) f fd) (T : Txt K mg G) (d_times : DefO P w K mg base G "times" 2 .d RV.m_times 3 []) (d_add : DefO P w K mg base G "add" 2 .d RV.m_add 3 []) (d_sub : DefO P w K mg base G "sub" 2 .d RV.m_sub 3 []) (dm_Market_cross : MethO P w K mg base G 0 "cross" 3 .d RM.m_Market_cross 1 []) : FnOk P w K mg base (L2.CX P w) 4 f fd ["market"] (spP K G 1 .d RM.m_equations) := by
  have sc := sc_equations
  exact fn_ok (μe := []) F sc rfl rfl fun cdv A outer s H E hr => (jss_cons (js_asg (i := 1) sc.nd (je_lstO ja_nil))
  (jss_cons (js_asg (i := 2) sc.nd (je_lstO ja_nil))
  (jss_cons (js_for po_of (ji_list (je_fld (je_var 0) T.cl_0 T.f_0_products)) (jg_tup (jgs_cons (jg_name (i := 3) sc.nd) (jgs_cons (jg_name (i := 4) sc.nd) (jgs_cons (jg_name (i := 5) sc.nd) (jgs_cons (jg_name (i := 6) sc.nd) (jgs_cons (jg_name (i := 7) sc.nd) jgs_nil))))))
  (jss_weak (μ' := [.d, .o, .o, .x, .x, .x, .x, .x, .x, .x, .x, .x, .x, .x, .x, .x]) (jss_cons (js_asg (i := 8) sc.nd (je_lstO ja_nil))
  (jss_cons (js_asg (i := 9) sc.nd (je_call d_add (hr.mono (by decide)) tk_of (ja_cons (je_var 5) (ja_cons (je_call d_times (hr.mono (by decide)) tk_of (ja_cons (je_var 6) (ja_cons (je_var 7) ja_nil)) (alen_cons (alen_cons alen_nil))) ja_nil)) (alen_cons (alen_cons alen_nil))))
  (jss_cons (js_weak0 (μ1 := [.d, .o, .o, .d, .d, .x, .d, .x, .o, .d, .x, .x, .x, .x, .x, .x]) (js_for po_of (ji_list (je_fld (je_var 0) T.cl_0 T.f_0_products)) (jg_tup (jgs_cons (jg_name (i := 10) sc.nd) (jgs_cons (jg_name (i := 11) sc.nd) (jgs_cons (jg_name (i := 12) sc.nd) (jgs_cons (jg_name (i := 13) sc.nd) (jgs_cons (jg_name (i := 14) sc.nd) jgs_nil))))))
  (jss_cons (js_asg (i := 15) sc.nd (je_meth dm_Market_cross T.cl_0 (hr.mono (by decide)) tk_of (je_var 0) (ja_cons (je_var 3) (ja_cons (je_var 10) ja_nil)) (alen_cons (alen_cons alen_nil))))
  (jss_one (js_if (jt_cmp (opr_eq hr.units) opb_eq (je_var 10) (je_var 3))
  (jss_weak (μ' := [.d, .o, .o, .d, .d, .x, .d, .x, .o, .d, .x, .x, .x, .x, .x, .x]) (jss_one (js_app (i := 8) (je_call d_times (hr.mono (by decide)) tk_of (ja_cons (je_globD T.c_TWO) (ja_cons (je_var 6) ja_nil)) (alen_cons (alen_cons alen_nil))))))
  (jss_one (js_if (jt_cmp (opr_eq hr.units) opb_eq (je_var 11) (je_var 4))
  (jss_weak (μ' := [.d, .o, .o, .d, .d, .x, .d, .x, .o, .d, .x, .x, .x, .x, .x, .x]) (jss_cons (js_app (i := 8) (je_call d_sub (hr.mono (by decide)) tk_of (ja_cons (je_globD T.c_ZERO_market) (ja_cons (je_call d_times (hr.mono (by decide)) tk_of (ja_cons (je_globD T.c_TWO) (ja_cons (je_var 15) ja_nil)) (alen_cons (alen_cons alen_nil))) ja_nil)) (alen_cons (alen_cons alen_nil))))
  (jss_one (js_asg (i := 9) sc.nd (je_call d_sub (hr.mono (by decide)) tk_of (ja_cons (je_var 9) (ja_cons (je_call d_times (hr.mono (by decide)) tk_of (ja_cons (je_var 15) (ja_cons (je_var 14) ja_nil)) (alen_cons (alen_cons alen_nil))) ja_nil)) (alen_cons (alen_cons alen_nil)))))))
  (jss_weak (μ' := [.d, .o, .o, .d, .d, .x, .d, .x, .o, .d, .x, .x, .x, .x, .x, .x]) (jss_one (js_app (i := 8) (je_call d_sub (hr.mono (by decide)) tk_of (ja_cons (je_globD T.c_ZERO_market) (ja_cons (je_var 15) ja_nil)) (alen_cons (alen_cons alen_nil)))))))))))))
  (jss_frz 8 (jss_cons (js_app (i := 1) (je_var 8))
  (jss_one (js_app (i := 2) (je_var 9))))))))))
  (jss_frz 2 (jss_frz 1 (jss_one (js_ret (je_tup (ja_cons (je_var 1) (ja_cons (je_var 2) ja_nil))))))))))
theorem sc_over : FnScope ["a", "b", "n", "d"] ["a", "b"] (defScope (top 15)) := ⟨rfl, rfl, rfl, by decide +kernel, rfl, by decide +kernel, by decide +kernel⟩
theorem okm_over {f : Addr} {fd : FuncData} (F : Fun K "over" "over" (top 15) f fd) (T : Txt K mg G) (d_ratio : DefO P w K mg base G "ratio" 2 .d RV.m_ratio 2 []) : FnOk P w K mg base (L2.CX P w) 3 f fd ["a", "b"] (spP K G 2 .d RV.m_over) := by
  have sc := sc_over
  exact fn_ok (μe := []) F sc rfl rfl fun cdv A outer s H E hr => (jss_cons (js_if (jt_cmp (opr_eq hr.units) opb_eq (je_ix (je_var 1) je_int) je_int)
  (jss_one (js_raise T.e_InvalidRatio tk_of (ja_cons je_str ja_nil) (alen_cons alen_nil)))
  jss_nil)
  (jss_cons (js_asg (i := 2) sc.nd (je_mul (je_ix (je_var 0) je_int) (je_ix (je_var 1) je_int)))
  (jss_cons (js_asg (i := 3) sc.nd (je_mul (je_ix (je_var 0) je_int) (je_ix (je_var 1) je_int)))
  (jss_cons (js_if (jt_cmp opr_lt opb_lt (je_var 3) je_int)
  (jss_weak (μ' := [.x, .x, .d, .d]) (jss_cons (js_asg (i := 2) sc.nd (je_neg (je_var 2)))
  (jss_one (js_asg (i := 3) sc.nd (je_neg (je_var 3))))))
  (jss_weak (μ' := [.x, .x, .d, .d]) jss_nil))
  (jss_one (js_ret (je_call d_ratio (hr.mono (by decide)) tk_of (ja_cons (je_var 2) (ja_cons (je_var 3) ja_nil)) (alen_cons (alen_cons alen_nil)))))))))
theorem sc_without_column : FnScope ["row", "own", "at", "part", "one", "other"] ["row", "own", "at"] (defScope (top 26)) := ⟨rfl, rfl, rfl, by decide +kernel, rfl, by decide +kernel, by decide +kernel⟩
theorem okm_without_column {f : Addr} {fd : FuncData} (F : Fun K "without_column" "without_column" (top 26) f fd) (T : Txt K mg G) (d_over : DefO P w K mg base G "over" 2 .d RV.m_over 3 []) (d_times : DefO P w K mg base G "times" 2 .d RV.m_times 3 []) (d_sub : DefO P w K mg base G "sub" 2 .d RV.m_sub 3 []) : FnOk P w K mg base (L2.CX P w) 4 f fd ["row", "own", "at"] (spP K G 3 .o RV.m_without_column) := by
  have sc := sc_without_column
  exact fn_ok (μe := []) F sc rfl rfl fun cdv A outer s H E hr => (jss_cons (js_asg (i := 3) sc.nd (je_call d_over (hr.mono (by decide)) tk_of (ja_cons (je_ix (je_var 0) (je_var 2)) (ja_cons (je_ix (je_var 1) (je_var 2)) ja_nil)) (alen_cons (alen_cons alen_nil))))
  (jss_one (js_ret (je_lcO (own := [("one", 4), ("other", 5)]) (vs := [4, 5]) sc.nd (ji_zip2 T.z_zip (ja_cons (je_var 0) (ja_cons (je_var 1) ja_nil))) (by dsimp only [cxOf, Cx.blk, compEnvC, PyProof.Rows.envOfC]; (try simp only [relabel_eq]); decide +kernel) (fun _ _ _ _ _ => (jgc_tup (jgcs_name (i := 4) sc.nd (jgcs_name (i := 5) sc.nd jgcs_nil)))) (fun _ _ _ _ _ => jts_nil) (fun _ _ _ _ _ => (je_call d_sub (hr.mono (by decide)) takes0 (ja_cons (je_var 4) (ja_cons (je_call d_times (hr.mono (by decide)) takes0 (ja_cons (je_var 3) (ja_cons (je_var 5) ja_nil)) (alen_cons (alen_cons alen_nil))) ja_nil)) (alen_cons (alen_cons alen_nil))))))))
theorem sc_solve : FnScope ["rows", "right", "table", "at", "place", "other", "row", "value"] ["rows", "right"] (defScope (top 27)) := ⟨rfl, rfl, rfl, by decide +kernel, rfl, by decide +kernel, by decide +kernel⟩
theorem okm_solve {f : Addr} {fd : FuncData} (F : Fun K "solve" "solve" (top 27) f fd) (T : Txt K mg G) (d_without_column : DefO P w K mg base G "without_column" 3 .o RV.m_without_column 4 []) (d_over : DefO P w K mg base G "over" 2 .d RV.m_over 3 []) : FnOk P w K mg base (L2.CX P w) 5 f fd ["rows", "right"] (spP K G 2 .o RV.m_solve) := by
  have sc := sc_solve
  exact fn_ok (μe := []) F sc rfl rfl fun cdv A outer s H E hr => (jss_cons (js_asgLcO (i := 2) (own := [("row", 6), ("value", 7)]) (vs := [6, 7]) sc.nd (ji_zip2 T.z_zip (ja_cons (je_var 0) (ja_cons (je_var 1) ja_nil))) (by dsimp only [cxOf, Cx.blk, compEnvC, PyProof.Rows.envOfC]; (try simp only [relabel_eq]); decide +kernel) (fun _ _ _ _ _ => (jgc_tup (jgcs_name (i := 6) sc.nd (jgcs_name (i := 7) sc.nd jgcs_nil)))) (fun _ _ _ _ _ => jts_nil) (fun _ _ _ _ _ => (je_add (je_frz (je_ct call_list_of (cd_list (.inr rfl)) T.z_list (ja_cons (je_var 6) ja_nil))) (je_lst (ja_cons (je_var 7) ja_nil)))) (sw_true rfl rfl rfl (by dsimp only [cxOf, Cx.blk, compEnvC, PyProof.Rows.envOfC]; (try simp only [relabel_eq]); decide +kernel)))
  (jss_cons (js_weak0 (μ1 := [.x, .x, .o, .x, .x, .x, .x, .x]) (js_for po_of (ji_rng1 T.z_range (ja_cons (je_lenO (i := 2) T.z_len) ja_nil)) (jg_name (i := 3) sc.nd)
  (jss_weak (μ' := [.x, .x, .o, .x, .x, .x, .x, .x]) (jss_cons (js_asg (i := 4) sc.nd (je_var 3))
  (jss_cons (js_while (fun ρ => (ρ.getD 2 .non).size + 1) po_of (jw_pt (jw_and (jt_cmp opr_lt opb_lt (je_var 4) (je_lenO (i := 2) T.z_len)) (jw_and1 (jt_cmp (opr_eq hr.units) opb_eq (je_ix (je_ixO (i := 2) (je_var 4)) (je_var 3)) (je_globD T.c_ZERO_matrix)))))
  (jss_one (js_asg (i := 4) sc.nd (je_add (je_var 4) je_int))))
  (jss_cons (js_if (jt_cmp (opr_eq hr.units) opb_eq (je_var 4) (je_lenO (i := 2) T.z_len))
  (jss_one (js_raise T.e_Singular tk_of (ja_cons je_str ja_nil) (alen_cons alen_nil)))
  jss_nil)
  (jss_cons (js_asgT (je_tup (ja_cons (je_ixO (i := 2) (je_var 4)) (ja_cons (je_ixO (i := 2) (je_var 3)) ja_nil))) (jg_tup (jgs_cons (jg_setO (i := 2) (je_var 3)) (jgs_cons (jg_setO (i := 2) (je_var 4)) jgs_nil))))
  (jss_one (js_weak0 (μ1 := [.x, .x, .o, .d, .x, .x, .x, .x]) (js_for po_of (ji_rng1 T.z_range (ja_cons (je_lenO (i := 2) T.z_len) ja_nil)) (jg_name (i := 5) sc.nd)
  (jss_one (js_if (jt_cmp (opr_ne hr.units) opb_ne (je_var 5) (je_var 3))
  (jss_weak (μ' := [.x, .x, .o, .d, .x, .x, .x, .x]) (jss_one (js_asgT (je_frz (je_call d_without_column (hr.mono (by decide)) tk_of (ja_cons (je_ixO (i := 2) (je_var 5)) (ja_cons (je_ixO (i := 2) (je_var 3)) (ja_cons (je_var 3) ja_nil))) (alen_cons (alen_cons (alen_cons alen_nil))))) (jg_setO (i := 2) (je_var 5)))))
  (jss_weak (μ' := [.x, .x, .o, .d, .x, .x, .x, .x]) jss_nil)))))))))))))
  (jss_frz 2 (jss_one (js_ret (je_lcO (own := [("at", 3), ("row", 6)]) (vs := [3, 6]) sc.nd (ji_enum T.z_enumerate (ja_cons (je_var 2) ja_nil)) (by dsimp only [cxOf, Cx.blk, compEnvC, PyProof.Rows.envOfC]; (try simp only [relabel_eq]); decide +kernel) (fun _ _ _ _ _ => (jgc_tup (jgcs_name (i := 3) sc.nd (jgcs_name (i := 6) sc.nd jgcs_nil)))) (fun _ _ _ _ _ => jts_nil) (fun _ _ _ _ _ => (je_call d_over (hr.mono (by decide)) takes0 (ja_cons (je_ix (je_var 6) (je_neg je_int)) (ja_cons (je_ix (je_var 6) (je_var 3)) ja_nil)) (alen_cons (alen_cons alen_nil))))))))))
theorem sc_equilibrium : FnScope ["market", "rows", "right"] ["market"] (defScope (top 31)) := ⟨rfl, rfl, rfl, by decide +kernel, rfl, by decide +kernel, by decide +kernel⟩
theorem okm_equilibrium {f : Addr} {fd : FuncData} (F : Fun K "equilibrium" "equilibrium" (top 31) f fd) (T : Txt K mg G) (d_equations : DefO P w K mg base G "equations" 1 .d RM.m_equations 4 []) (d_solve : DefO P w K mg base G "solve" 2 .o RV.m_solve 5 []) : FnOk P w K mg base (L2.CX P w) 6 f fd ["market"] (spP K G 1 .o RM.m_equilibrium) := by
  have sc := sc_equilibrium
  exact fn_ok (μe := []) F sc rfl rfl fun cdv A outer s H E hr => (jss_cons (js_asgT (je_call d_equations (hr.mono (by decide)) tk_of (ja_cons (je_var 0) ja_nil) (alen_cons alen_nil)) (jg_tup (jgs_cons (jg_name (i := 1) sc.nd) (jgs_cons (jg_name (i := 2) sc.nd) jgs_nil))))
  (jss_one (js_ret (je_call d_solve (hr.mono (by decide)) tk_of (ja_cons (je_var 1) (ja_cons (je_var 2) ja_nil)) (alen_cons (alen_cons alen_nil))))))
theorem sc_product : FnScope ["rows", "values", "found", "row", "total", "part", "value"] ["rows", "values"] (defScope (top 25)) := ⟨rfl, rfl, rfl, by decide +kernel, rfl, by decide +kernel, by decide +kernel⟩
theorem okm_product {f : Addr} {fd : FuncData} (F : Fun K "product" "product" (top 25) f fd) (T : Txt K mg G) (d_times : DefO P w K mg base G "times" 2 .d RV.m_times 3 []) (d_add : DefO P w K mg base G "add" 2 .d RV.m_add 3 []) : FnOk P w K mg base (L2.CX P w) 4 f fd ["rows", "values"] (spP K G 2 .o RV.m_product) := by
  have sc := sc_product
  exact fn_ok (μe := []) F sc rfl rfl fun cdv A outer s H E hr => (jss_cons (js_asg (i := 2) sc.nd (je_lstO ja_nil))
  (jss_cons (js_for po_of (ji_list (je_var 0)) (jg_name (i := 3) sc.nd)
  (jss_weak (μ' := [.d, .d, .o, .x, .x, .x, .x]) (jss_cons (js_asg (i := 4) sc.nd (je_globD T.c_ZERO_matrix))
  (jss_cons (js_for po_of (ji_zip2 T.z_zip (ja_cons (je_var 3) (ja_cons (je_var 1) ja_nil))) (jg_tup (jgs_cons (jg_name (i := 5) sc.nd) (jgs_cons (jg_name (i := 6) sc.nd) jgs_nil)))
  (jss_weak (μ' := [.d, .d, .o, .d, .d, .x, .x]) (jss_one (js_asg (i := 4) sc.nd (je_call d_add (hr.mono (by decide)) tk_of (ja_cons (je_var 4) (ja_cons (je_call d_times (hr.mono (by decide)) tk_of (ja_cons (je_var 5) (ja_cons (je_var 6) ja_nil)) (alen_cons (alen_cons alen_nil))) ja_nil)) (alen_cons (alen_cons alen_nil)))))))
  (jss_one (js_app (i := 2) (je_var 4)))))))
  (jss_one (js_retO (i := 2)))))
theorem sc_judge : FnScope ["market", "prices", "rows", "right"] ["market", "prices"] (defScope (top 32)) := ⟨rfl, rfl, rfl, by decide +kernel, rfl, by decide +kernel, by decide +kernel⟩
theorem okm_judge {f : Addr} {fd : FuncData} (F : Fun K "judge" "judge" (top 32) f fd) (T : Txt K mg G) (d_equations : DefO P w K mg base G "equations" 1 .d RM.m_equations 4 []) (d_product : DefO P w K mg base G "product" 2 .o RV.m_product 4 []) : FnOk P w K mg base (L2.CX P w) 5 f fd ["market", "prices"] (spP K G 2 .d RM.m_judge) := by
  have sc := sc_judge
  exact fn_ok (μe := []) F sc rfl rfl fun cdv A outer s H E hr => (jss_cons (js_asgT (je_call d_equations (hr.mono (by decide)) tk_of (ja_cons (je_var 0) ja_nil) (alen_cons alen_nil)) (jg_tup (jgs_cons (jg_name (i := 2) sc.nd) (jgs_cons (jg_name (i := 3) sc.nd) jgs_nil))))
  (jss_one (js_ret (je_and (je_cmp (opr_eq hr.units) opb_eq (je_cb call_len cd_len T.z_len (ja_cons (je_var 1) ja_nil)) (je_cb call_len cd_len T.z_len (ja_cons (je_var 2) ja_nil))) (je_one (je_cmp (opr_eq hr.units) opb_eq (je_frz (je_call d_product (hr.mono (by decide)) tk_of (ja_cons (je_var 2) (ja_cons (je_var 1) ja_nil)) (alen_cons (alen_cons alen_nil)))) (je_var 3)))))))
theorem sc__law_times : FnScope ["_law_x", "_law_y"] ["_law_x", "_law_y"] (defScope (top 38)) := ⟨rfl, rfl, rfl, by decide +kernel, rfl, by decide +kernel, by decide +kernel⟩
theorem okm__law_times {f : Addr} {fd : FuncData} (F : Fun K "_law_times" "_law_times" (top 38) f fd) (T : Txt K mg G) (d__law_ratio : DefO P w K mg base G "_law_ratio" 2 .d RM.m__law_ratio 1 []) : FnOk P w K mg base (L2.CX P w) 2 f fd ["_law_x", "_law_y"] (spP K G 2 .d RM.m__law_times) := by
  have sc := sc__law_times
  exact fn_ok (μe := []) F sc rfl rfl fun cdv A outer s H E hr => (jss_one (js_ret (je_call d__law_ratio (hr.mono (by decide)) tk_of (ja_cons (je_mul (je_ix (je_var 0) je_int) (je_ix (je_var 1) je_int)) (ja_cons (je_mul (je_ix (je_var 0) je_int) (je_ix (je_var 1) je_int)) ja_nil)) (alen_cons (alen_cons alen_nil)))))
theorem sc__law_over : FnScope ["_law_x", "_law_y"] ["_law_x", "_law_y"] (defScope (top 51)) := ⟨rfl, rfl, rfl, by decide +kernel, rfl, by decide +kernel, by decide +kernel⟩
theorem okm__law_over {f : Addr} {fd : FuncData} (F : Fun K "_law_over" "_law_over" (top 51) f fd) (T : Txt K mg G) (d__law_ratio : DefO P w K mg base G "_law_ratio" 2 .d RM.m__law_ratio 1 []) : FnOk P w K mg base (L2.CX P w) 2 f fd ["_law_x", "_law_y"] (spP K G 2 .d RM.m__law_over) := by
  have sc := sc__law_over
  exact fn_ok (μe := []) F sc rfl rfl fun cdv A outer s H E hr => (jss_one (js_ret (je_call d__law_ratio (hr.mono (by decide)) tk_of (ja_cons (je_mul (je_ix (je_var 0) je_int) (je_ix (je_var 1) je_int)) (ja_cons (je_mul (je_ix (je_var 0) je_int) (je_ix (je_var 1) je_int)) ja_nil)) (alen_cons (alen_cons alen_nil)))))
theorem sc__law_cross : FnScope ["_law_rivalries_here", "_law_one", "_law_other", "_law_a", "_law_b", "_law_cross_here"] ["_law_rivalries_here", "_law_one", "_law_other"] (defScope (top 47)) := ⟨rfl, rfl, rfl, by decide +kernel, rfl, by decide +kernel, by decide +kernel⟩
theorem okm__law_cross {f : Addr} {fd : FuncData} (F : Fun K "_law_cross" "_law_cross" (top 47) f fd) (T : Txt K mg G) : FnOk P w K mg base (L2.CX P w) 1 f fd ["_law_rivalries_here", "_law_one", "_law_other"] (spP K G 3 .d RM.m__law_cross) := by
  have sc := sc__law_cross
  exact fn_ok (μe := []) F sc rfl rfl fun cdv A outer s H E hr => (jss_cons (js_for po_of (ji_list (je_var 0)) (jg_tup (jgs_cons (jg_name (i := 3) sc.nd) (jgs_cons (jg_name (i := 4) sc.nd) (jgs_cons (jg_name (i := 5) sc.nd) jgs_nil))))
  (jss_one (js_if (jw_pt (jw_or (jt_cmp (opr_eq hr.units) opb_eq (je_tup (ja_cons (je_var 3) (ja_cons (je_var 4) ja_nil))) (je_tup (ja_cons (je_var 1) (ja_cons (je_var 2) ja_nil)))) (jw_or1 (jt_cmp (opr_eq hr.units) opb_eq (je_tup (ja_cons (je_var 4) (ja_cons (je_var 3) ja_nil))) (je_tup (ja_cons (je_var 1) (ja_cons (je_var 2) ja_nil)))))))
  (jss_one (js_ret (je_var 5)))
  (jss_weak (μ' := [.d, .d, .d, .x, .x, .x]) jss_nil))))
  (jss_one (js_ret (je_tup (ja_cons je_int (ja_cons je_int ja_nil))))))
theorem sc__law_sub : FnScope ["_law_x", "_law_y"] ["_law_x", "_law_y"] (defScope (top 37)) := ⟨rfl, rfl, rfl, by decide +kernel, rfl, by decide +kernel, by decide +kernel⟩
theorem okm__law_sub {f : Addr} {fd : FuncData} (F : Fun K "_law_sub" "_law_sub" (top 37) f fd) (T : Txt K mg G) (d__law_ratio : DefO P w K mg base G "_law_ratio" 2 .d RM.m__law_ratio 1 []) : FnOk P w K mg base (L2.CX P w) 2 f fd ["_law_x", "_law_y"] (spP K G 2 .d RM.m__law_sub) := by
  have sc := sc__law_sub
  exact fn_ok (μe := []) F sc rfl rfl fun cdv A outer s H E hr => (jss_one (js_ret (je_call d__law_ratio (hr.mono (by decide)) tk_of (ja_cons (je_sub (je_mul (je_ix (je_var 0) je_int) (je_ix (je_var 1) je_int)) (je_mul (je_ix (je_var 1) je_int) (je_ix (je_var 0) je_int))) (ja_cons (je_mul (je_ix (je_var 0) je_int) (je_ix (je_var 1) je_int)) ja_nil)) (alen_cons (alen_cons alen_nil)))))
theorem sc__law_weight : FnScope ["_law_products_here", "_law_rivalries_here", "_law_j", "_law_total", "_law_k", "_law_cross_here"] ["_law_products_here", "_law_rivalries_here", "_law_j"] (defScope (top 50)) := ⟨rfl, rfl, rfl, by decide +kernel, rfl, by decide +kernel, by decide +kernel⟩
theorem okm__law_weight {f : Addr} {fd : FuncData} (F : Fun K "_law_weight" "_law_weight" (top 50) f fd) (T : Txt K mg G) (d__law_times : DefO P w K mg base G "_law_times" 2 .d RM.m__law_times 2 []) (d__law_cross : DefO P w K mg base G "_law_cross" 3 .d RM.m__law_cross 1 []) (d__law_sub : DefO P w K mg base G "_law_sub" 2 .d RM.m__law_sub 2 []) : FnOk P w K mg base (L2.CX P w) 3 f fd ["_law_products_here", "_law_rivalries_here", "_law_j"] (spP K G 3 .d m__law_weight) := by
  have sc := sc__law_weight
  exact fn_ok (μe := []) F sc rfl rfl fun cdv A outer s H E hr => (jss_cons (js_asg (i := 3) sc.nd (je_call d__law_times (hr.mono (by decide)) tk_of (ja_cons (je_tup (ja_cons je_int (ja_cons je_int ja_nil))) (ja_cons (je_ix (je_ix (je_var 0) (je_var 2)) je_int) ja_nil)) (alen_cons (alen_cons alen_nil))))
  (jss_cons (js_for po_of (ji_rng1 T.z_range (ja_cons (je_cb call_len cd_len T.z_len (ja_cons (je_var 0) ja_nil)) ja_nil)) (jg_name (i := 4) sc.nd)
  (jss_one (js_if (jt_cmp (opr_ne hr.units) opb_ne (je_var 4) (je_var 2))
  (jss_cons (js_asg (i := 5) sc.nd (je_call d__law_cross (hr.mono (by decide)) tk_of (ja_cons (je_var 1) (ja_cons (je_ix (je_ix (je_var 0) (je_var 4)) je_int) (ja_cons (je_ix (je_ix (je_var 0) (je_var 2)) je_int) ja_nil))) (alen_cons (alen_cons (alen_cons alen_nil)))))
  (jss_cons (js_asg (i := 3) sc.nd (je_call d__law_sub (hr.mono (by decide)) tk_of (ja_cons (je_var 3) (ja_cons (je_var 5) ja_nil)) (alen_cons (alen_cons alen_nil))))
  (jss_one (js_if (jt_cmp (opr_eq hr.units) opb_eq (je_ix (je_ix (je_var 0) (je_var 4)) je_int) (je_ix (je_ix (je_var 0) (je_var 2)) je_int))
  (jss_weak (μ' := [.d, .d, .d, .d, .x, .x]) (jss_one (js_asg (i := 3) sc.nd (je_call d__law_sub (hr.mono (by decide)) tk_of (ja_cons (je_var 3) (ja_cons (je_var 5) ja_nil)) (alen_cons (alen_cons alen_nil))))))
  (jss_weak (μ' := [.d, .d, .d, .d, .x, .x]) jss_nil)))))
  (jss_weak (μ' := [.d, .d, .d, .d, .x, .x]) jss_nil))))
  (jss_one (js_ret (je_var 3)))))
theorem sc__law_change : FnScope ["_law_products_here", "_law_rivalries_here", "_law_prices", "_law_cell_here", "_law_other", "_law_step", "_law_place", "_law_second", "_law_part", "_law_k"] ["_law_products_here", "_law_rivalries_here", "_law_prices", "_law_cell_here"] (defScope (top 52)) := ⟨rfl, rfl, rfl, by decide +kernel, rfl, by decide +kernel, by decide +kernel⟩
theorem okm__law_change {f : Addr} {fd : FuncData} (F : Fun K "_law_change" "_law_change" (top 52) f fd) (T : Txt K mg G) (d__law_ratio : DefO P w K mg base G "_law_ratio" 2 .d RM.m__law_ratio 1 []) (d__law_add : DefO P w K mg base G "_law_add" 2 .d RM.m__law_add 2 []) (d__law_times : DefO P w K mg base G "_law_times" 2 .d RM.m__law_times 2 []) (d__law_weight : DefO P w K mg base G "_law_weight" 3 .d m__law_weight 3 []) (d__law_over : DefO P w K mg base G "_law_over" 2 .d RM.m__law_over 2 []) (d__law_sub : DefO P w K mg base G "_law_sub" 2 .d RM.m__law_sub 2 []) : FnOk P w K mg base (L2.CX P w) 4 f fd ["_law_products_here", "_law_rivalries_here", "_law_prices", "_law_cell_here"] (spP K G 4 .o m__law_change) := by
  have sc := sc__law_change
  exact fn_ok (μe := []) F sc rfl rfl fun cdv A outer s H E hr => (jss_cons (js_asg (i := 4) sc.nd (je_ct call_list_of (cd_list (.inr rfl)) T.z_list (ja_cons (je_var 2) ja_nil)))
  (jss_cons (js_asg (i := 5) sc.nd (je_mod (je_ct call_intOf cd_int T.z_int (ja_cons (je_var 3) ja_nil)) je_int))
  (jss_cons (js_asg (i := 6) sc.nd (je_mod (je_div (je_ct call_intOf cd_int T.z_int (ja_cons (je_var 3) ja_nil)) je_int) (je_cb call_len cd_len T.z_len (ja_cons (je_var 2) ja_nil))))
  (jss_cons (js_asg (i := 7) sc.nd (je_mod (je_div (je_ct call_intOf cd_int T.z_int (ja_cons (je_var 3) ja_nil)) je_int) (je_cb call_len cd_len T.z_len (ja_cons (je_var 2) ja_nil))))
  (jss_cons (js_asg (i := 8) sc.nd (je_call d__law_ratio (hr.mono (by decide)) tk_of (ja_cons (je_sub (je_mod (je_div (je_ct call_intOf cd_int T.z_int (ja_cons (je_var 3) ja_nil)) je_int) je_int) je_int) (ja_cons (je_add je_int (je_mod (je_div (je_ct call_intOf cd_int T.z_int (ja_cons (je_var 3) ja_nil)) je_int) je_int)) ja_nil)) (alen_cons (alen_cons alen_nil))))
  (jss_cons (js_if (jt_cmp (opr_eq hr.units) opb_eq (je_var 5) je_int)
  (jss_weak (μ' := [.x, .x, .x, .x, .o, .x, .x, .x, .x, .x]) (jss_one (js_asgT (je_call d__law_add (hr.mono (by decide)) tk_of (ja_cons (je_ixO (i := 4) (je_var 6)) (ja_cons (je_var 8) ja_nil)) (alen_cons (alen_cons alen_nil))) (jg_setO (i := 4) (je_var 6)))))
  (jss_one (js_if (jt_cmp (opr_eq hr.units) opb_eq (je_var 5) je_int)
  (jss_weak (μ' := [.x, .x, .x, .x, .o, .x, .x, .x, .x, .x]) (jss_one (js_weak0 (μ1 := [.x, .x, .d, .x, .o, .x, .x, .x, .d, .x]) (js_for po_of (ji_rng1 T.z_range (ja_cons (je_cb call_len cd_len T.z_len (ja_cons (je_var 2) ja_nil)) ja_nil)) (jg_name (i := 9) sc.nd)
  (jss_weak (μ' := [.x, .x, .d, .x, .o, .x, .x, .x, .d, .x]) (jss_one (js_asgT (je_call d__law_add (hr.mono (by decide)) tk_of (ja_cons (je_ixO (i := 4) (je_var 9)) (ja_cons (je_call d__law_times (hr.mono (by decide)) tk_of (ja_cons (je_var 8) (ja_cons (je_tup (ja_cons (je_add (je_var 9) je_int) (ja_cons je_int ja_nil))) ja_nil)) (alen_cons (alen_cons alen_nil))) ja_nil)) (alen_cons (alen_cons alen_nil))) (jg_setO (i := 4) (je_var 9)))))))))
  (jss_one (js_if (jt_cmp (opr_ne hr.units) opb_ne (je_var 6) (je_var 7))
  (jss_weak (μ' := [.x, .x, .x, .x, .o, .x, .x, .x, .x, .x]) (jss_cons (js_asgT (je_call d__law_add (hr.mono (by decide)) tk_of (ja_cons (je_ixO (i := 4) (je_var 6)) (ja_cons (je_call d__law_over (hr.mono (by decide)) tk_of (ja_cons (je_var 8) (ja_cons (je_call d__law_weight (hr.mono (by decide)) tk_of (ja_cons (je_var 0) (ja_cons (je_var 1) (ja_cons (je_var 6) ja_nil))) (alen_cons (alen_cons (alen_cons alen_nil)))) ja_nil)) (alen_cons (alen_cons alen_nil))) ja_nil)) (alen_cons (alen_cons alen_nil))) (jg_setO (i := 4) (je_var 6)))
  (jss_one (js_asgT (je_call d__law_sub (hr.mono (by decide)) tk_of (ja_cons (je_ixO (i := 4) (je_var 7)) (ja_cons (je_call d__law_over (hr.mono (by decide)) tk_of (ja_cons (je_var 8) (ja_cons (je_call d__law_weight (hr.mono (by decide)) tk_of (ja_cons (je_var 0) (ja_cons (je_var 1) (ja_cons (je_var 7) ja_nil))) (alen_cons (alen_cons (alen_cons alen_nil)))) ja_nil)) (alen_cons (alen_cons alen_nil))) ja_nil)) (alen_cons (alen_cons alen_nil))) (jg_setO (i := 4) (je_var 7))))))
  (jss_weak (μ' := [.x, .x, .x, .x, .o, .x, .x, .x, .x, .x]) jss_nil))))))
  (jss_one (js_retO (i := 4)))))))))
theorem sc__law_demands : FnScope ["_law_products_here", "_law_rivalries_here", "_law_prices", "_law_found", "_law_k", "_law_demand", "_law_j", "_law_cross_here"] ["_law_products_here", "_law_rivalries_here", "_law_prices"] (defScope (top 48)) := ⟨rfl, rfl, rfl, by decide +kernel, rfl, by decide +kernel, by decide +kernel⟩
theorem okm__law_demands {f : Addr} {fd : FuncData} (F : Fun K "_law_demands" "_law_demands" (top 48) f fd) (T : Txt K mg G) (d__law_times : DefO P w K mg base G "_law_times" 2 .d RM.m__law_times 2 []) (d__law_sub : DefO P w K mg base G "_law_sub" 2 .d RM.m__law_sub 2 []) (d__law_cross : DefO P w K mg base G "_law_cross" 3 .d RM.m__law_cross 1 []) (d__law_add : DefO P w K mg base G "_law_add" 2 .d RM.m__law_add 2 []) : FnOk P w K mg base (L2.CX P w) 3 f fd ["_law_products_here", "_law_rivalries_here", "_law_prices"] (spP K G 3 .o RM.m__law_demands) := by
  have sc := sc__law_demands
  exact fn_ok (μe := []) F sc rfl rfl fun cdv A outer s H E hr => (jss_cons (js_asg (i := 3) sc.nd (je_lstO ja_nil))
  (jss_cons (js_for po_of (ji_rng1 T.z_range (ja_cons (je_cb call_len cd_len T.z_len (ja_cons (je_var 0) ja_nil)) ja_nil)) (jg_name (i := 4) sc.nd)
  (jss_weak (μ' := [.d, .d, .d, .o, .x, .x, .x, .x]) (jss_cons (js_asg (i := 5) sc.nd (je_call d__law_sub (hr.mono (by decide)) tk_of (ja_cons (je_ix (je_ix (je_var 0) (je_var 4)) je_int) (ja_cons (je_call d__law_times (hr.mono (by decide)) tk_of (ja_cons (je_ix (je_ix (je_var 0) (je_var 4)) je_int) (ja_cons (je_ix (je_var 2) (je_var 4)) ja_nil)) (alen_cons (alen_cons alen_nil))) ja_nil)) (alen_cons (alen_cons alen_nil))))
  (jss_cons (js_for po_of (ji_rng1 T.z_range (ja_cons (je_cb call_len cd_len T.z_len (ja_cons (je_var 0) ja_nil)) ja_nil)) (jg_name (i := 6) sc.nd)
  (jss_one (js_if (jt_cmp (opr_ne hr.units) opb_ne (je_var 6) (je_var 4))
  (jss_weak (μ' := [.d, .d, .d, .o, .d, .d, .x, .x]) (jss_cons (js_asg (i := 7) sc.nd (je_call d__law_cross (hr.mono (by decide)) tk_of (ja_cons (je_var 1) (ja_cons (je_ix (je_ix (je_var 0) (je_var 4)) je_int) (ja_cons (je_ix (je_ix (je_var 0) (je_var 6)) je_int) ja_nil))) (alen_cons (alen_cons (alen_cons alen_nil)))))
  (jss_one (js_asg (i := 5) sc.nd (je_call d__law_add (hr.mono (by decide)) tk_of (ja_cons (je_var 5) (ja_cons (je_call d__law_times (hr.mono (by decide)) tk_of (ja_cons (je_var 7) (ja_cons (je_ix (je_var 2) (je_var 6)) ja_nil)) (alen_cons (alen_cons alen_nil))) ja_nil)) (alen_cons (alen_cons alen_nil)))))))
  (jss_weak (μ' := [.d, .d, .d, .o, .d, .d, .x, .x]) jss_nil))))
  (jss_one (js_app (i := 3) (je_var 5)))))))
  (jss_one (js_retO (i := 3)))))
theorem sc__law_less : FnScope ["_law_x", "_law_y"] ["_law_x", "_law_y"] (defScope (top 39)) := ⟨rfl, rfl, rfl, by decide +kernel, rfl, by decide +kernel, by decide +kernel⟩
theorem okm__law_less {f : Addr} {fd : FuncData} (F : Fun K "_law_less" "_law_less" (top 39) f fd) (T : Txt K mg G) : FnOk P w K mg base (L2.CX P w) 1 f fd ["_law_x", "_law_y"] (spP K G 2 .d RM.m__law_less) := by
  have sc := sc__law_less
  exact fn_ok (μe := []) F sc rfl rfl fun cdv A outer s H E hr => (jss_one (js_ret (je_cmp opr_lt opb_lt (je_mul (je_ix (je_var 0) je_int) (je_ix (je_var 1) je_int)) (je_mul (je_ix (je_var 1) je_int) (je_ix (je_var 0) je_int)))))
theorem sc_less : FnScope ["a", "b"] ["a", "b"] (defScope (top 16)) := ⟨rfl, rfl, rfl, by decide +kernel, rfl, by decide +kernel, by decide +kernel⟩
theorem okm_less {f : Addr} {fd : FuncData} (F : Fun K "less" "less" (top 16) f fd) (T : Txt K mg G) : FnOk P w K mg base (L2.CX P w) 1 f fd ["a", "b"] (spP K G 2 .d RV.m_less) := by
  have sc := sc_less
  exact fn_ok (μe := []) F sc rfl rfl fun cdv A outer s H E hr => (jss_one (js_ret (je_cmp opr_lt opb_lt (je_mul (je_ix (je_var 0) je_int) (je_ix (je_var 1) je_int)) (je_mul (je_ix (je_var 1) je_int) (je_ix (je_var 0) je_int)))))
theorem sc_Market_names : FnScope ["self", "product"] ["self"] (defScope (meth 22 3)) := ⟨rfl, rfl, rfl, by decide +kernel, rfl, by decide +kernel, by decide +kernel⟩
theorem okm_Market_names {f : Addr} {fd : FuncData} (F : Fun K "names" "Market.names" (meth 22 3) f fd) (T : Txt K mg G) : FnOk P w K mg base (L2.CX P w) 1 f fd ["self"] (spP K G 1 .o RM.m_Market_names) := by
  have sc := sc_Market_names
  exact fn_ok (μe := []) F sc rfl rfl fun cdv A outer s H E hr => (jss_one (js_ret (je_lcO (own := [("product", 1)]) (vs := [1]) sc.nd (ji_list (je_fld (je_var 0) T.cl_0 T.f_0_products)) (by dsimp only [cxOf, Cx.blk, compEnvC, PyProof.Rows.envOfC]; (try simp only [relabel_eq]); decide +kernel) (fun _ _ _ _ _ => (jgc_name (i := 1) sc.nd)) (fun _ _ _ _ _ => jts_nil) (fun _ _ _ _ _ => (je_ix (je_var 1) je_int)))))
theorem sc_Market_demands : FnScope ["self", "prices", "names", "found", "at", "name", "owner", "base", "own", "cost", "demand", "other", "price"] ["self", "prices"] (defScope (meth 22 9)) := ⟨rfl, rfl, rfl, by decide +kernel, rfl, by decide +kernel, by decide +kernel⟩
theorem okm_Market_demands {f : Addr} {fd : FuncData} (F : Fun K "demands" "Market.demands" (meth 22 9) f fd) (T : Txt K mg G) (d_times : DefO P w K mg base G "times" 2 .d RV.m_times 3 []) (d_sub : DefO P w K mg base G "sub" 2 .d RV.m_sub 3 []) (d_add : DefO P w K mg base G "add" 2 .d RV.m_add 3 []) (dm_Market_names : MethO P w K mg base G 0 "names" 1 .o RM.m_Market_names 1 []) (dm_Market_cross : MethO P w K mg base G 0 "cross" 3 .d RM.m_Market_cross 1 []) : FnOk P w K mg base (L2.CX P w) 4 f fd ["self", "prices"] (spP K G 2 .o RM.m_Market_demands) := by
  have sc := sc_Market_demands
  exact fn_ok (μe := []) F sc rfl rfl fun cdv A outer s H E hr => (jss_cons (js_asg (i := 2) sc.nd (je_frz (je_meth0 dm_Market_names T.cl_0 (hr.mono (by decide)) tk_of (je_var 0))))
  (jss_cons (js_asg (i := 3) sc.nd (je_lstO ja_nil))
  (jss_cons (js_for po_of (ji_enum T.z_enumerate (ja_cons (je_fld (je_var 0) T.cl_0 T.f_0_products) ja_nil)) (jg_tup (jgs_cons (jg_name (i := 4) sc.nd) (jgs_cons (jg_tup (jgs_cons (jg_name (i := 5) sc.nd) (jgs_cons (jg_name (i := 6) sc.nd) (jgs_cons (jg_name (i := 7) sc.nd) (jgs_cons (jg_name (i := 8) sc.nd) (jgs_cons (jg_name (i := 9) sc.nd) jgs_nil)))))) jgs_nil)))
  (jss_weak (μ' := [.d, .d, .d, .o, .x, .x, .x, .x, .x, .x, .x, .x, .x]) (jss_cons (js_asg (i := 10) sc.nd (je_call d_sub (hr.mono (by decide)) tk_of (ja_cons (je_var 7) (ja_cons (je_call d_times (hr.mono (by decide)) tk_of (ja_cons (je_var 8) (ja_cons (je_ix (je_var 1) (je_var 4)) ja_nil)) (alen_cons (alen_cons alen_nil))) ja_nil)) (alen_cons (alen_cons alen_nil))))
  (jss_cons (js_weak0 (μ1 := [.d, .d, .d, .o, .x, .d, .x, .x, .x, .x, .d, .x, .x]) (js_for po_of (ji_zip2 T.z_zip (ja_cons (je_var 2) (ja_cons (je_var 1) ja_nil))) (jg_tup (jgs_cons (jg_name (i := 11) sc.nd) (jgs_cons (jg_name (i := 12) sc.nd) jgs_nil)))
  (jss_weak (μ' := [.d, .d, .d, .o, .x, .d, .x, .x, .x, .x, .d, .x, .x]) (jss_one (js_asg (i := 10) sc.nd (je_call d_add (hr.mono (by decide)) tk_of (ja_cons (je_var 10) (ja_cons (je_call d_times (hr.mono (by decide)) tk_of (ja_cons (je_meth dm_Market_cross T.cl_0 (hr.mono (by decide)) tk_of (je_var 0) (ja_cons (je_var 5) (ja_cons (je_var 11) ja_nil)) (alen_cons (alen_cons alen_nil))) (ja_cons (je_var 12) ja_nil)) (alen_cons (alen_cons alen_nil))) ja_nil)) (alen_cons (alen_cons alen_nil))))))))
  (jss_one (js_app (i := 3) (je_var 10)))))))
  (jss_one (js_retO (i := 3))))))
theorem sc_is_lively : FnScope ["market", "demand"] ["market"] (defScope (top 33)) := ⟨rfl, rfl, rfl, by decide +kernel, rfl, by decide +kernel, by decide +kernel⟩
theorem okm_is_lively {f : Addr} {fd : FuncData} (F : Fun K "is_lively" "is_lively" (top 33) f fd) (T : Txt K mg G) (d_equilibrium : DefO P w K mg base G "equilibrium" 1 .o RM.m_equilibrium 6 []) (d_less : DefO P w K mg base G "less" 2 .d RV.m_less 1 []) (dm_Market_demands : MethO P w K mg base G 0 "demands" 2 .o RM.m_Market_demands 4 []) : FnOk P w K mg base (L2.CX P w) 7 f fd ["market"] (spP K G 1 .d RM.m_is_lively) := by
  have sc := sc_is_lively
  exact fn_ok (μe := []) F sc rfl rfl fun cdv A outer s H E hr => (jss_cons (js_for po_of (ji_list (je_frz (je_meth dm_Market_demands T.cl_0 (hr.mono (by decide)) tk_of (je_var 0) (ja_cons (je_frz (je_call d_equilibrium (hr.mono (by decide)) tk_of (ja_cons (je_var 0) ja_nil) (alen_cons alen_nil))) ja_nil) (alen_cons alen_nil)))) (jg_name (i := 1) sc.nd)
  (jss_one (js_if (jt_not (jt_tr (je_call d_less (hr.mono (by decide)) tk_of (ja_cons (je_globD T.c_ZERO_market) (ja_cons (je_var 1) ja_nil)) (alen_cons (alen_cons alen_nil)))))
  (jss_one (js_ret je_bl))
  (jss_weak (μ' := [.d, .x]) jss_nil))))
  (jss_one (js_ret je_bl)))
theorem sc_is_name : FnScope ["text", "sign"] ["text"] (defScope (top 21)) := ⟨rfl, rfl, rfl, by decide +kernel, rfl, by decide +kernel, by decide +kernel⟩
theorem okm_is_name {f : Addr} {fd : FuncData} (F : Fun K "is_name" "is_name" (top 21) f fd) (T : Txt K mg G) : FnOk P w K mg base (L2.CX P w) 1 f fd ["text"] (spP K G 1 .d RM.m_is_name) := by
  have sc := sc_is_name
  exact fn_ok (μe := []) F sc rfl rfl fun cdv A outer s H E hr => (jss_cons (js_for po_of (ji_str (je_var 0)) (jg_name (i := 1) sc.nd)
  (jss_one (js_if (jt_cmp opr_notIn opb_notIn (je_var 1) (je_globD T.c_LETTERS))
  (jss_one (js_ret je_bl))
  (jss_weak (μ' := [.d, .x]) jss_nil))))
  (jss_one (js_ret (je_chain opr_le opr_le opb_le opb_le je_int (je_cb call_len cd_len T.z_len (ja_cons (je_var 0) ja_nil)) je_int))))
theorem sc_Market__check_products : FnScope ["self", "products", "seen", "name", "owner", "base", "own", "cost"] ["self", "products"] (defScope (meth 22 1)) := ⟨rfl, rfl, rfl, by decide +kernel, rfl, by decide +kernel, by decide +kernel⟩
theorem okmB_Market__check_products_0 {f : Addr} {fd : FuncData} (F : Fun K "_check_products" "Market._check_products" (meth 22 1) f fd) (T : Txt K mg G) (d_is_name : DefO P w K mg base G "is_name" 1 .d RM.m_is_name 1 []) (d_less : DefO P w K mg base G "less" 2 .d RV.m_less 1 []) : FnOk P w K mg base (L2.CX P w) 2 f fd ["self", "products"] (spB K G 1 .d (.i 0 .nil) (.s 0 (.i 0 .nil)) (.s 0 (.i 0 .nil)) RM.mB_Market__check_products_0) := by
  have sc := sc_Market__check_products
  exact fn_okB (sh := (.i 0 .nil)) F sc rfl rfl (fun cdv A outer s H E hr => (jss_cons (js_if (jt_not (jt_chain opr_le opr_le opb_le opb_le je_int (je_cb call_len cd_len T.z_len (ja_cons (je_var 1) ja_nil)) (je_globD T.c_MOST_PRODUCTS)))
  (jss_one (js_raise T.e_InvalidMarket tk_of (ja_cons je_str ja_nil) (alen_cons alen_nil)))
  jss_nil)
  (jss_cons (js_asg (i := 2) sc.nd (je_lstO ja_nil))
  (jss_one (js_for po_of (ji_list (je_var 1)) (jg_tup (jgs_cons (jg_name (i := 3) sc.nd) (jgs_cons (jg_name (i := 4) sc.nd) (jgs_cons (jg_name (i := 5) sc.nd) (jgs_cons (jg_name (i := 6) sc.nd) (jgs_cons (jg_name (i := 7) sc.nd) jgs_nil))))))
  (jss_weak (μ' := [.s 0 (.i 0 .nil), .d, .o, .x, .x, .x, .x, .x]) (jss_cons (js_if (jw_pt (jw_or (jt_not (jt_tr (je_call d_is_name (hr.mono (by decide)) tk_of (ja_cons (je_var 3) ja_nil) (alen_cons alen_nil)))) (jw_or1 (jt_not (jt_tr (je_call d_is_name (hr.mono (by decide)) tk_of (ja_cons (je_var 4) ja_nil) (alen_cons alen_nil)))))))
  (jss_one (js_raise T.e_InvalidMarket tk_of (ja_cons je_str ja_nil) (alen_cons alen_nil)))
  (jss_weak (μ' := [.s 0 (.i 0 .nil), .d, .o, .d, .x, .d, .d, .d]) jss_nil))
  (jss_cons (js_if (jt_pInL (je_var 3) (pl_slot (i := 2) (sh := (.l (.all .d)))))
  (jss_one (js_raise T.e_DuplicateName tk_of (ja_cons (je_var 3) ja_nil) (alen_cons alen_nil)))
  jss_nil)
  (jss_cons (js_if (jw_pt (jw_or (jt_not (jt_tr (je_call d_less (hr.mono (by decide)) tk_of (ja_cons (je_globD T.c_ZERO_market) (ja_cons (je_var 5) ja_nil)) (alen_cons (alen_cons alen_nil))))) (jw_or (jt_not (jt_tr (je_call d_less (hr.mono (by decide)) tk_of (ja_cons (je_globD T.c_ZERO_market) (ja_cons (je_var 6) ja_nil)) (alen_cons (alen_cons alen_nil))))) (jw_or1 (jt_tr (je_call d_less (hr.mono (by decide)) tk_of (ja_cons (je_var 7) (ja_cons (je_globD T.c_ZERO_market) ja_nil)) (alen_cons (alen_cons alen_nil))))))))
  (jss_one (js_raise T.e_InvalidMarket tk_of (ja_cons (je_var 3) ja_nil) (alen_cons alen_nil)))
  (jss_weak (μ' := [.s 0 (.i 0 .nil), .d, .o, .d, .x, .x, .x, .x]) jss_nil))
  (jss_one (js_app (i := 2) (je_var 3)))))))))))) rfl
theorem okmB_Market_names {f : Addr} {fd : FuncData} (F : Fun K "names" "Market.names" (meth 22 3) f fd) (T : Txt K mg G) : FnOk P w K mg base (L2.CX P w) 1 f fd ["self"] (spB K G 0 .o (.i 0 (.cons .d (.cons .dt .nil))) (.s 0 (.i 0 (.cons .d (.cons .dt .nil)))) (.s 0 (.i 0 (.cons .d (.cons .dt .nil)))) RM.mB_Market_names) := by
  have sc := sc_Market_names
  exact fn_okB (μe := .s 0 (.i 0 (.cons .d (.cons .dt .nil))) :: List.replicate 1 .x) (sh := (.i 0 (.cons .d (.cons .dt .nil)))) F sc rfl rfl (fun cdv A outer s H E hr => (jss_one (js_ret (je_lcO (own := [("product", 1)]) (vs := [1]) sc.nd (ji_list (je_kidF (i := 0) (j := 0) T.cl_0 T.f_0_products)) (by dsimp only [cxOf, Cx.blk, compEnvC, PyProof.Rows.envOfC]; (try simp only [relabel_eq]); decide +kernel) (fun _ _ _ _ _ => (jgc_name (i := 1) sc.nd)) (fun _ _ _ _ _ => jts_nil) (fun _ _ _ _ _ => (je_ix (je_var 1) je_int)))))) rfl
theorem sc_Market__add_rivalry : FnScope ["self", "one", "other", "cross", "name"] ["self", "one", "other", "cross"] (defScope (meth 22 2)) := ⟨rfl, rfl, rfl, by decide +kernel, rfl, by decide +kernel, by decide +kernel⟩
theorem okmB_Market__add_rivalry {f : Addr} {fd : FuncData} (F : Fun K "_add_rivalry" "Market._add_rivalry" (meth 22 2) f fd) (T : Txt K mg G) (d_less : DefO P w K mg base G "less" 2 .d RV.m_less 1 []) (dmB_Market_names : MethB P w K mg base G 0 "names" 0 .o (.i 0 (.cons .d (.cons .dt .nil))) RM.mB_Market_names 1 []) : FnOk P w K mg base (L2.CX P w) 2 f fd ["self", "one", "other", "cross"] (spB K G 3 .d (.i 0 (.cons .d (.cons .dt .nil))) (.s 0 (.i 0 (.cons .d (.cons .dt .nil)))) (.s 0 (.i 0 (.cons .d (.cons .dt .nil)))) RM.mB_Market__add_rivalry) := by
  have sc := sc_Market__add_rivalry
  exact fn_okB (sh := (.i 0 (.cons .d (.cons .dt .nil)))) F sc rfl rfl (fun cdv A outer s H E hr => (jss_cons (js_for po_of (ji_tup (je_tup (ja_cons (je_var 1) (ja_cons (je_var 2) ja_nil)))) (jg_name (i := 4) sc.nd)
  (jss_one (js_if (jt_cmp opr_notIn opb_notIn (je_var 4) (je_frz (je_methB0 (i := 0) dmB_Market_names T.cl_0 (hr.mono (by decide)) tk_of)))
  (jss_one (js_raise T.e_UnknownName tk_of (ja_cons (je_var 4) ja_nil) (alen_cons alen_nil)))
  (jss_weak (μ' := [.s 0 (.i 0 (.cons .d (.cons .dt .nil))), .d, .d, .d, .x]) jss_nil))))
  (jss_cons (js_if (jw_pt (jw_or (jt_cmp (opr_eq hr.units) opb_eq (je_var 1) (je_var 2)) (jw_or1 (jt_not (jt_tr (je_call d_less (hr.mono (by decide)) tk_of (ja_cons (je_globD T.c_ZERO_market) (ja_cons (je_var 3) ja_nil)) (alen_cons (alen_cons alen_nil))))))))
  (jss_one (js_raise T.e_InvalidMarket tk_of (ja_cons je_str ja_nil) (alen_cons alen_nil)))
  jss_nil)
  (jss_cons (js_if (jt_pIn hr.units (jk_tup (ja_cons (je_var 1) (ja_cons (je_var 2) ja_nil))) (pl_fld (i := 0) (j := 1) T.cl_0 T.f_0__crosses))
  (jss_one (js_raise T.e_DuplicateName tk_of (ja_cons (je_var 1) ja_nil) (alen_cons alen_nil)))
  jss_nil)
  (jss_cons (js_pPut hr.units (je_var 3) (pl_fld (i := 0) (j := 1) T.cl_0 T.f_0__crosses) (jk_tup (ja_cons (je_var 1) (ja_cons (je_var 2) ja_nil))))
  (jss_one (js_pPut hr.units (je_var 3) (pl_fld (i := 0) (j := 1) T.cl_0 T.f_0__crosses) (jk_tup (ja_cons (je_var 2) (ja_cons (je_var 1) ja_nil)))))))))) rfl
theorem okmB_Market_cross {f : Addr} {fd : FuncData} (F : Fun K "cross" "Market.cross" (meth 22 7) f fd) (T : Txt K mg G) : FnOk P w K mg base (L2.CX P w) 1 f fd ["self", "one", "other"] (spB K G 2 .d (.i 0 (.cons .d (.cons .dt .nil))) (.s 0 (.i 0 (.cons .d (.cons .dt .nil)))) (.s 0 (.i 0 (.cons .d (.cons .dt .nil)))) RM.mB_Market_cross) := by
  have sc := sc_Market_cross
  exact fn_okB (μe := .s 0 (.i 0 (.cons .d (.cons .dt .nil))) :: List.replicate 2 .x) (sh := (.i 0 (.cons .d (.cons .dt .nil)))) F sc rfl rfl (fun cdv A outer s H E hr => (jss_one (js_ret (je_pGet2 hr.units (pl_fld (i := 0) (j := 1) T.cl_0 T.f_0__crosses) (jk_tup (ja_cons (je_var 1) (ja_cons (je_var 2) ja_nil))) (je_globD T.c_ZERO_market))))) rfl
theorem sc_Market___init__ : FnScope ["self", "products", "rivalries", "one", "other", "cross", "name", "owner", "base", "own", "cost", "total"] ["self", "products", "rivalries"] (defScope (meth 22 0)) := ⟨rfl, rfl, rfl, by decide +kernel, rfl, by decide +kernel, by decide +kernel⟩
theorem okmI_Market___init__ {f : Addr} {fd : FuncData} (F : Fun K "__init__" "Market.__init__" (meth 22 0) f fd) (T : Txt K mg G) (d_add : DefO P w K mg base G "add" 2 .d RV.m_add 3 []) (d_less : DefO P w K mg base G "less" 2 .d RV.m_less 1 []) (dmB_Market__check_products_0 : MethB P w K mg base G 0 "_check_products" 1 .d (.i 0 .nil) RM.mB_Market__check_products_0 2 []) (dmB_Market__add_rivalry : MethB P w K mg base G 0 "_add_rivalry" 3 .d (.i 0 (.cons .d (.cons .dt .nil))) RM.mB_Market__add_rivalry 2 []) (dmB_Market_names : MethB P w K mg base G 0 "names" 0 .o (.i 0 (.cons .d (.cons .dt .nil))) RM.mB_Market_names 1 []) (dmB_Market_cross : MethB P w K mg base G 0 "cross" 2 .d (.i 0 (.cons .d (.cons .dt .nil))) RM.mB_Market_cross 1 []) : FnOk P w K mg base (L2.CX P w) 4 f fd ["self", "products", "rivalries"] (spB K G 2 .d (.i 0 .nil) (.s 0 (.i 0 (.cons .d (.cons .dt .nil)))) .x RM.mI_Market___init__) := by
  have sc := sc_Market___init__
  exact fn_okI (sh0 := (.i 0 .nil)) (sh := (.i 0 (.cons .d (.cons .dt .nil)))) F sc rfl rfl (fun cdv A outer s H E hr => (jss_cons (js_drop (je_methB (i := 0) dmB_Market__check_products_0 T.cl_0 (hr.mono (by decide)) tk_of (ja_cons (je_var 1) ja_nil) (alen_cons alen_nil)))
  (jss_cons (js_fldNew (row := .nil) (i := 0) (c := 0) (s1 := .d) T.cl_0 T.f_0_products (je_sorted (r := .d) T.z_sorted (ja_cons (je_var 1) ja_nil)))
  (jss_cons (js_fldNew (row := (.cons .d .nil)) (i := 0) (c := 0) (s1 := .dt) T.cl_0 T.f_0__crosses je_newT)
  (jss_cons (js_weak0 (μ1 := [.s 0 (.i 0 (.cons .d (.cons .dt .nil))), .x, .d, .x, .x, .x, .x, .x, .x, .x, .x, .x]) (js_for po_of (ji_list (je_var 2)) (jg_tup (jgs_cons (jg_name (i := 3) sc.nd) (jgs_cons (jg_name (i := 4) sc.nd) (jgs_cons (jg_name (i := 5) sc.nd) jgs_nil))))
  (jss_weak (μ' := [.s 0 (.i 0 (.cons .d (.cons .dt .nil))), .x, .d, .x, .x, .x, .x, .x, .x, .x, .x, .x]) (jss_one (js_drop (je_methB (i := 0) dmB_Market__add_rivalry T.cl_0 (hr.mono (by decide)) tk_of (ja_cons (je_var 3) (ja_cons (je_var 4) (ja_cons (je_var 5) ja_nil))) (alen_cons (alen_cons (alen_cons alen_nil)))))))))
  (jss_one (js_weak0 (μ1 := [.s 0 (.i 0 (.cons .d (.cons .dt .nil))), .x, .x, .x, .x, .x, .x, .x, .x, .x, .x, .x]) (js_for po_of (ji_list (je_kidF (i := 0) (j := 0) T.cl_0 T.f_0_products)) (jg_tup (jgs_cons (jg_name (i := 6) sc.nd) (jgs_cons (jg_name (i := 7) sc.nd) (jgs_cons (jg_name (i := 8) sc.nd) (jgs_cons (jg_name (i := 9) sc.nd) (jgs_cons (jg_name (i := 10) sc.nd) jgs_nil))))))
  (jss_cons (js_asg (i := 11) sc.nd (je_globD T.c_ZERO_market))
  (jss_cons (js_weak0 (μ1 := [.s 0 (.i 0 (.cons .d (.cons .dt .nil))), .x, .x, .x, .x, .x, .d, .x, .x, .d, .x, .d]) (js_for po_of (ji_list (je_frz (je_methB0 (i := 0) dmB_Market_names T.cl_0 (hr.mono (by decide)) tk_of))) (jg_name (i := 4) sc.nd)
  (jss_weak (μ' := [.s 0 (.i 0 (.cons .d (.cons .dt .nil))), .x, .x, .x, .x, .x, .d, .x, .x, .d, .x, .d]) (jss_one (js_asg (i := 11) sc.nd (je_call d_add (hr.mono (by decide)) tk_of (ja_cons (je_var 11) (ja_cons (je_methB (i := 0) dmB_Market_cross T.cl_0 (hr.mono (by decide)) tk_of (ja_cons (je_var 6) (ja_cons (je_var 4) ja_nil)) (alen_cons (alen_cons alen_nil))) ja_nil)) (alen_cons (alen_cons alen_nil))))))))
  (jss_one (js_if (jt_not (jt_tr (je_call d_less (hr.mono (by decide)) tk_of (ja_cons (je_var 11) (ja_cons (je_var 9) ja_nil)) (alen_cons (alen_cons alen_nil)))))
  (jss_one (js_raise T.e_InvalidMarket tk_of (ja_cons (je_var 6) ja_nil) (alen_cons alen_nil)))
  (jss_weak (μ' := [.s 0 (.i 0 (.cons .d (.cons .dt .nil))), .x, .x, .x, .x, .x, .x, .x, .x, .x, .x, .x]) jss_nil))))))))))))) rfl
theorem sc_law : FnScope ["_law_script", "_law_products_here", "_law_rivalries_here", "_law_market", "_law_prices", "_law_n", "_law_d", "_law_cell_here", "_law_other", "_law_handed", "_law_told", "_law_due", "_law_demand"] ["_law_script"] (defScope (top 53)) := ⟨rfl, rfl, rfl, by decide +kernel, rfl, by decide +kernel, by decide +kernel⟩
theorem okm_law {f : Addr} {fd : FuncData} (F : Fun K "law" "law" (top 53) f fd) (T : Txt K mg G) (d__law_products : DefO P w K mg base G "_law_products" 1 .o RM.m__law_products 4 []) (d__law_rivalries : DefO P w K mg base G "_law_rivalries" 1 .o RM.m__law_rivalries 3 []) (d_equilibrium : DefO P w K mg base G "equilibrium" 1 .o RM.m_equilibrium 6 []) (d__law_ratio : DefO P w K mg base G "_law_ratio" 2 .d RM.m__law_ratio 1 []) (d_judge : DefO P w K mg base G "judge" 2 .d RM.m_judge 5 []) (d__law_change : DefO P w K mg base G "_law_change" 4 .o m__law_change 4 []) (d__law_demands : DefO P w K mg base G "_law_demands" 3 .o RM.m__law_demands 3 []) (d__law_less : DefO P w K mg base G "_law_less" 2 .d RM.m__law_less 1 []) (d_is_lively : DefO P w K mg base G "is_lively" 1 .d RM.m_is_lively 7 []) (k_Market : MakeO P w K mg base G "Market" 0 2 (.i 0 (.cons .d (.cons .dt .nil))) RM.mI_Market___init__ 4 []) : FnOk P w K mg base (L2.CX P w) 8 f fd ["_law_script"] (spP K G 1 .d m_law) := by
  have sc := sc_law
  exact fn_ok (μe := []) F sc rfl rfl fun cdv A outer s H E hr => (jss_cons (js_asg (i := 1) sc.nd (je_frz (je_call d__law_products (hr.mono (by decide)) tk_of (ja_cons (je_var 0) ja_nil) (alen_cons alen_nil))))
  (jss_cons (js_asg (i := 2) sc.nd (je_frz (je_call d__law_rivalries (hr.mono (by decide)) tk_of (ja_cons (je_var 0) ja_nil) (alen_cons alen_nil))))
  (jss_cons (js_asg (i := 3) sc.nd (je_frzM (je_make k_Market (hr.mono (by decide)) tk_of (ja_cons (je_var 1) (ja_cons (je_var 2) ja_nil)) (alen_cons (alen_cons alen_nil)))))
  (jss_cons (js_asg (i := 4) sc.nd (je_frz (je_call d_equilibrium (hr.mono (by decide)) tk_of (ja_cons (je_var 3) ja_nil) (alen_cons alen_nil))))
  (jss_cons (js_drop (je_fAppend (je_call d_equilibrium (hr.mono (by decide)) tk_of (ja_cons (je_var 3) ja_nil) (alen_cons alen_nil)) (ja_cons (je_tup (ja_cons je_int (ja_cons je_int ja_nil))) ja_nil)))
  (jss_cons (js_if (jw_pt (jw_or (jt_not (jt_tr (je_isi (je_var 4) T.z_isinstance T.z_list))) (jw_or1 (jt_cmp (opr_ne hr.units) opb_ne (je_frz (je_call d_equilibrium (hr.mono (by decide)) tk_of (ja_cons (je_var 3) ja_nil) (alen_cons alen_nil))) (je_var 4)))))
  (jss_one (js_ret je_bl))
  jss_nil)
  (jss_cons (js_for po_of (ji_list (je_var 4)) (jg_tup (jgs_cons (jg_name (i := 5) sc.nd) (jgs_cons (jg_name (i := 6) sc.nd) jgs_nil)))
  (jss_one (js_if (jw_pt (jw_or (jt_cmp opr_lt opb_lt (je_var 6) je_int) (jw_or1 (jt_cmp (opr_ne hr.units) opb_ne (je_call d__law_ratio (hr.mono (by decide)) tk_of (ja_cons (je_var 5) (ja_cons (je_var 6) ja_nil)) (alen_cons (alen_cons alen_nil))) (je_tup (ja_cons (je_var 5) (ja_cons (je_var 6) ja_nil)))))))
  (jss_one (js_ret je_bl))
  (jss_weak (μ' := [.d, .d, .d, .d, .d, .x, .x, .x, .x, .x, .x, .x, .x]) jss_nil))))
  (jss_cons (js_if (jw_pt (jw_or (jt_cmp op_notBl opb_notB (je_call d_judge (hr.mono (by decide)) tk_of (ja_cons (je_var 3) (ja_cons (je_frz (je_ct call_list_of (cd_list (.inr rfl)) T.z_list (ja_cons (je_var 4) ja_nil))) ja_nil)) (alen_cons (alen_cons alen_nil))) je_bl) (jw_or (jt_cmp op_notBl opb_notB (je_call d_judge (hr.mono (by decide)) tk_of (ja_cons (je_var 3) (ja_cons (je_add (je_var 4) (je_lst (ja_cons (je_tup (ja_cons je_int (ja_cons je_int ja_nil))) ja_nil))) ja_nil)) (alen_cons (alen_cons alen_nil))) je_bl) (jw_or1 (jt_cmp op_notBl opb_notB (je_call d_judge (hr.mono (by decide)) tk_of (ja_cons (je_var 3) (ja_cons (je_slice (je_var 4) (jo_some je_int) jo_none) ja_nil)) (alen_cons (alen_cons alen_nil))) je_bl)))))
  (jss_one (js_ret je_bl))
  jss_nil)
  (jss_cons (js_for po_of (ji_list (je_add (je_slice (je_var 0) (jo_some je_int) (jo_some je_int)) (je_lst (ja_cons je_int (ja_cons je_int (ja_cons je_int (ja_cons je_int (ja_cons je_int ja_nil)))))))) (jg_name (i := 7) sc.nd)
  (jss_cons (js_asg (i := 8) sc.nd (je_frz (je_call d__law_change (hr.mono (by decide)) tk_of (ja_cons (je_var 1) (ja_cons (je_var 2) (ja_cons (je_var 4) (ja_cons (je_var 7) ja_nil)))) (alen_cons (alen_cons (alen_cons (alen_cons alen_nil)))))))
  (jss_cons (js_asg (i := 9) sc.nd (je_frz (je_ct call_list_of (cd_list (.inr rfl)) T.z_list (ja_cons (je_var 8) ja_nil))))
  (jss_cons (js_asg (i := 10) sc.nd (je_call d_judge (hr.mono (by decide)) tk_of (ja_cons (je_var 3) (ja_cons (je_var 9) ja_nil)) (alen_cons (alen_cons alen_nil))))
  (jss_one (js_if (jw_pt (jw_or (jw_pt (jw_and (jt_cmp op_notBl opb_notB (je_var 10) je_bl) (jw_and1 (jt_cmp op_notBl opb_notB (je_var 10) je_bl)))) (jw_or (jt_cmp (opr_ne hr.units) opb_ne (je_var 10) (je_cmp (opr_eq hr.units) opb_eq (je_var 8) (je_var 4))) (jw_or1 (jt_cmp (opr_ne hr.units) opb_ne (je_var 9) (je_var 8))))))
  (jss_one (js_ret je_bl))
  (jss_weak (μ' := [.d, .d, .d, .d, .d, .x, .x, .x, .x, .x, .x, .x, .x]) jss_nil)))))))
  (jss_cons (js_asg (i := 11) sc.nd (je_cmp (opr_eq hr.units) opb_eq (je_frz (je_lcO (own := [("_law_demand", 12)]) (vs := [12]) sc.nd (ji_list (je_frz (je_call d__law_demands (hr.mono (by decide)) tk_of (ja_cons (je_var 1) (ja_cons (je_var 2) (ja_cons (je_var 4) ja_nil))) (alen_cons (alen_cons (alen_cons alen_nil)))))) (by dsimp only [cxOf, Cx.blk, compEnvC, PyProof.Rows.envOfC]; (try simp only [relabel_eq]); decide +kernel) (fun _ _ _ _ _ => (jgc_name (i := 12) sc.nd)) (fun _ _ _ _ _ => (jts_one (jt_not (jt_tr (je_call d__law_less (hr.mono (by decide)) takes0 (ja_cons (je_tup (ja_cons je_int (ja_cons je_int ja_nil))) (ja_cons (je_var 12) ja_nil)) (alen_cons (alen_cons alen_nil))))))) (fun _ _ _ _ _ => (je_var 12)))) (je_lst ja_nil)))
  (jss_cons (js_asg (i := 10) sc.nd (je_call d_is_lively (hr.mono (by decide)) tk_of (ja_cons (je_var 3) ja_nil) (alen_cons alen_nil)))
  (jss_one (js_ret (je_and (je_or (je_cmp op_isBl opb_isB (je_var 10) je_bl) (je_one (je_cmp op_isBl opb_isB (je_var 10) je_bl))) (je_one (je_cmp (opr_eq hr.units) opb_eq (je_var 10) (je_var 11)))))))))))))))))
end
/-- law's: a list of at most 63 ints is handed in, True comes out -/
def spLaw (K : PySem.W.Frag) : Sp := fun vs H Q _ => ∃ (a : Addr) (ns : List Int), vs = [.ref a] ∧ SqL K H a (ns.map V.int) ∧ ns.length ≤ 63 ∧ (∀ z ∈ ns, z.natAbs < 2 ^ bitsMost) ∧ ∀ H', Q (.bl true) H'
theorem all_mk {l : PySem.W.OpenLaw} {w : World} {K : PySem.W.Frag} {h : Heap} {mg : Str → Option Value} {fa : Addr} (X : K.In h) (G0 : h.Ns mainGlobals mg) (hfa : mg "law" = some (.ref fa))
    {x_Market : Addr} (xa_Market : PySem.W.nsIn K mainGlobals "Market" = some (some (.ref x_Market))) (pg_Market : PySem.W.plainGet K x_Market Str.empty = true) (hd_Market : PySem.W.hasDictIn K x_Market = true) (po_Market : PySem.W.plainOver K x_Market = true) (sa_Market : PySem.W.findIn K (.ref x_Market) "__setattr__" = some (some (.builtin "object.__setattr__"))) (mk_Market : PySem.W.makesIn K x_Market = true) (kc_Market : PySem.W.keepIn K (.ref x_Market) = true)
    (nf_Market__crosses : PySem.W.findIn K (.ref x_Market) "_crosses" = some none)
    (nf_Market_products : PySem.W.findIn K (.ref x_Market) "products" = some none)
    {f0 : Addr} {oc0 : Value} {od0 an0 : Option Addr} {sl0 : Array (Option Value)} {kV0 dc0 pm0 cd0 ct0 : Value}
    (a0 : PySem.W.nsIn K mainGlobals "_law_words" = some (some (.ref f0)))
    (l0 : K.lookup f0 = some ⟨oc0, od0, .func (PySem.W.fnOf "_law_words" "_law_words" (defArgs (top 41)) (defBody (top 41)) (defScope (top 41)) .none kV0 dc0 pm0 an0 cd0 ct0), sl0⟩) (c0 : PySem.W.codeIn K cd0 "_law_words" = true) (k0 : PySem.W.keepIn K (.ref f0) = true)
    {f1 : Addr} {oc1 : Value} {od1 an1 : Option Addr} {sl1 : Array (Option Value)} {kV1 dc1 pm1 cd1 ct1 : Value}
    (a1 : PySem.W.nsIn K mainGlobals "_law_cell" = some (some (.ref f1)))
    (l1 : K.lookup f1 = some ⟨oc1, od1, .func (PySem.W.fnOf "_law_cell" "_law_cell" (defArgs (top 40)) (defBody (top 40)) (defScope (top 40)) .none kV1 dc1 pm1 an1 cd1 ct1), sl1⟩) (c1 : PySem.W.codeIn K cd1 "_law_cell" = true) (k1 : PySem.W.keepIn K (.ref f1) = true)
    {f2 : Addr} {oc2 : Value} {od2 an2 : Option Addr} {sl2 : Array (Option Value)} {kV2 dc2 pm2 cd2 ct2 : Value}
    (a2 : PySem.W.nsIn K mainGlobals "_law_names" = some (some (.ref f2)))
    (l2 : K.lookup f2 = some ⟨oc2, od2, .func (PySem.W.fnOf "_law_names" "_law_names" (defArgs (top 42)) (defBody (top 42)) (defScope (top 42)) .none kV2 dc2 pm2 an2 cd2 ct2), sl2⟩) (c2 : PySem.W.codeIn K cd2 "_law_names" = true) (k2 : PySem.W.keepIn K (.ref f2) = true)
    {f3 : Addr} {oc3 : Value} {od3 an3 : Option Addr} {sl3 : Array (Option Value)} {kV3 dc3 pm3 cd3 ct3 : Value}
    (a3 : PySem.W.nsIn K mainGlobals "_law_ratio" = some (some (.ref f3)))
    (l3 : K.lookup f3 = some ⟨oc3, od3, .func (PySem.W.fnOf "_law_ratio" "_law_ratio" (defArgs (top 35)) (defBody (top 35)) (defScope (top 35)) .none kV3 dc3 pm3 an3 cd3 ct3), sl3⟩) (c3 : PySem.W.codeIn K cd3 "_law_ratio" = true) (k3 : PySem.W.keepIn K (.ref f3) = true)
    {f4 : Addr} {oc4 : Value} {od4 an4 : Option Addr} {sl4 : Array (Option Value)} {kV4 dc4 pm4 cd4 ct4 : Value}
    (a4 : PySem.W.nsIn K mainGlobals "_law_rivalries" = some (some (.ref f4)))
    (l4 : K.lookup f4 = some ⟨oc4, od4, .func (PySem.W.fnOf "_law_rivalries" "_law_rivalries" (defArgs (top 45)) (defBody (top 45)) (defScope (top 45)) .none kV4 dc4 pm4 an4 cd4 ct4), sl4⟩) (c4 : PySem.W.codeIn K cd4 "_law_rivalries" = true) (k4 : PySem.W.keepIn K (.ref f4) = true)
    {f5 : Addr} {oc5 : Value} {od5 an5 : Option Addr} {sl5 : Array (Option Value)} {kV5 dc5 pm5 cd5 ct5 : Value}
    (a5 : PySem.W.nsIn K mainGlobals "_law_add" = some (some (.ref f5)))
    (l5 : K.lookup f5 = some ⟨oc5, od5, .func (PySem.W.fnOf "_law_add" "_law_add" (defArgs (top 36)) (defBody (top 36)) (defScope (top 36)) .none kV5 dc5 pm5 an5 cd5 ct5), sl5⟩) (c5 : PySem.W.codeIn K cd5 "_law_add" = true) (k5 : PySem.W.keepIn K (.ref f5) = true)
    {f6 : Addr} {oc6 : Value} {od6 an6 : Option Addr} {sl6 : Array (Option Value)} {kV6 dc6 pm6 cd6 ct6 : Value}
    (a6 : PySem.W.nsIn K mainGlobals "_law_owners" = some (some (.ref f6)))
    (l6 : K.lookup f6 = some ⟨oc6, od6, .func (PySem.W.fnOf "_law_owners" "_law_owners" (defArgs (top 43)) (defBody (top 43)) (defScope (top 43)) .none kV6 dc6 pm6 an6 cd6 ct6), sl6⟩) (c6 : PySem.W.codeIn K cd6 "_law_owners" = true) (k6 : PySem.W.keepIn K (.ref f6) = true)
    {f7 : Addr} {oc7 : Value} {od7 an7 : Option Addr} {sl7 : Array (Option Value)} {kV7 dc7 pm7 cd7 ct7 : Value}
    (a7 : PySem.W.nsIn K mainGlobals "_law_products" = some (some (.ref f7)))
    (l7 : K.lookup f7 = some ⟨oc7, od7, .func (PySem.W.fnOf "_law_products" "_law_products" (defArgs (top 46)) (defBody (top 46)) (defScope (top 46)) .none kV7 dc7 pm7 an7 cd7 ct7), sl7⟩) (c7 : PySem.W.codeIn K cd7 "_law_products" = true) (k7 : PySem.W.keepIn K (.ref f7) = true)
    {f8 : Addr} {oc8 : Value} {od8 an8 : Option Addr} {sl8 : Array (Option Value)} {kV8 dc8 pm8 cd8 ct8 : Value}
    (a8 : PySem.W.nsIn K mainGlobals "is_integer" = some (some (.ref f8)))
    (l8 : K.lookup f8 = some ⟨oc8, od8, .func (PySem.W.fnOf "is_integer" "is_integer" (defArgs (top 9)) (defBody (top 9)) (defScope (top 9)) .none kV8 dc8 pm8 an8 cd8 ct8), sl8⟩) (c8 : PySem.W.codeIn K cd8 "is_integer" = true) (k8 : PySem.W.keepIn K (.ref f8) = true)
    {f9 : Addr} {oc9 : Value} {od9 an9 : Option Addr} {sl9 : Array (Option Value)} {kV9 dc9 pm9 cd9 ct9 : Value}
    (a9 : PySem.W.nsIn K mainGlobals "common_divisor" = some (some (.ref f9)))
    (l9 : K.lookup f9 = some ⟨oc9, od9, .func (PySem.W.fnOf "common_divisor" "common_divisor" (defArgs (top 10)) (defBody (top 10)) (defScope (top 10)) .none kV9 dc9 pm9 an9 cd9 ct9), sl9⟩) (c9 : PySem.W.codeIn K cd9 "common_divisor" = true) (k9 : PySem.W.keepIn K (.ref f9) = true)
    {f10 : Addr} {oc10 : Value} {od10 an10 : Option Addr} {sl10 : Array (Option Value)} {kV10 dc10 pm10 cd10 ct10 : Value} {dV10 : Value}
    (a10 : PySem.W.nsIn K mainGlobals "ratio" = some (some (.ref f10)))
    (l10 : K.lookup f10 = some ⟨oc10, od10, .func (PySem.W.fnOf "ratio" "ratio" (defArgs (top 11)) (defBody (top 11)) (defScope (top 11)) dV10 kV10 dc10 pm10 an10 cd10 ct10), sl10⟩) (c10 : PySem.W.codeIn K cd10 "ratio" = true) (k10 : PySem.W.keepIn K (.ref f10) = true)
    {dT10 : Addr} {dO10 : Obj} {dn10 : Nat} {dt10_0 : Tok} (dv10 : dV10 = .ref dT10) (dl10 : K.lookup dT10 = some dO10) (dd10 : dO10.data = .seq #[.int 1 dt10_0] dn10)
    {f11 : Addr} {oc11 : Value} {od11 an11 : Option Addr} {sl11 : Array (Option Value)} {kV11 dc11 pm11 cd11 ct11 : Value}
    (a11 : PySem.W.nsIn K mainGlobals "add" = some (some (.ref f11)))
    (l11 : K.lookup f11 = some ⟨oc11, od11, .func (PySem.W.fnOf "add" "add" (defArgs (top 12)) (defBody (top 12)) (defScope (top 12)) .none kV11 dc11 pm11 an11 cd11 ct11), sl11⟩) (c11 : PySem.W.codeIn K cd11 "add" = true) (k11 : PySem.W.keepIn K (.ref f11) = true)
    {f12 : Addr} {oc12 : Value} {od12 an12 : Option Addr} {sl12 : Array (Option Value)} {kV12 dc12 pm12 cd12 ct12 : Value}
    (a12 : PySem.W.nsIn K mainGlobals "times" = some (some (.ref f12)))
    (l12 : K.lookup f12 = some ⟨oc12, od12, .func (PySem.W.fnOf "times" "times" (defArgs (top 14)) (defBody (top 14)) (defScope (top 14)) .none kV12 dc12 pm12 an12 cd12 ct12), sl12⟩) (c12 : PySem.W.codeIn K cd12 "times" = true) (k12 : PySem.W.keepIn K (.ref f12) = true)
    {f13 : Addr} {oc13 : Value} {od13 an13 : Option Addr} {sl13 : Array (Option Value)} {kV13 dc13 pm13 cd13 ct13 : Value}
    (a13 : PySem.W.nsIn K mainGlobals "sub" = some (some (.ref f13)))
    (l13 : K.lookup f13 = some ⟨oc13, od13, .func (PySem.W.fnOf "sub" "sub" (defArgs (top 13)) (defBody (top 13)) (defScope (top 13)) .none kV13 dc13 pm13 an13 cd13 ct13), sl13⟩) (c13 : PySem.W.codeIn K cd13 "sub" = true) (k13 : PySem.W.keepIn K (.ref f13) = true)
    {f14 : Addr} {oc14 : Value} {od14 an14 : Option Addr} {sl14 : Array (Option Value)} {kV14 dc14 pm14 cd14 ct14 : Value}
    (a14 : PySem.W.findIn K (.ref x_Market) "cross" = some (some (.ref f14))) (i14 : PySem.W.isFn K (.ref f14) = true)
    (l14 : K.lookup f14 = some ⟨oc14, od14, .func (PySem.W.fnOf "cross" "Market.cross" (defArgs (meth 22 7)) (defBody (meth 22 7)) (defScope (meth 22 7)) .none kV14 dc14 pm14 an14 cd14 ct14), sl14⟩) (c14 : PySem.W.codeIn K cd14 "Market.cross" = true) (k14 : PySem.W.keepIn K (.ref f14) = true)
    {f15 : Addr} {oc15 : Value} {od15 an15 : Option Addr} {sl15 : Array (Option Value)} {kV15 dc15 pm15 cd15 ct15 : Value}
    (a15 : PySem.W.nsIn K mainGlobals "equations" = some (some (.ref f15)))
    (l15 : K.lookup f15 = some ⟨oc15, od15, .func (PySem.W.fnOf "equations" "equations" (defArgs (top 30)) (defBody (top 30)) (defScope (top 30)) .none kV15 dc15 pm15 an15 cd15 ct15), sl15⟩) (c15 : PySem.W.codeIn K cd15 "equations" = true) (k15 : PySem.W.keepIn K (.ref f15) = true)
    {f16 : Addr} {oc16 : Value} {od16 an16 : Option Addr} {sl16 : Array (Option Value)} {kV16 dc16 pm16 cd16 ct16 : Value}
    (a16 : PySem.W.nsIn K mainGlobals "over" = some (some (.ref f16)))
    (l16 : K.lookup f16 = some ⟨oc16, od16, .func (PySem.W.fnOf "over" "over" (defArgs (top 15)) (defBody (top 15)) (defScope (top 15)) .none kV16 dc16 pm16 an16 cd16 ct16), sl16⟩) (c16 : PySem.W.codeIn K cd16 "over" = true) (k16 : PySem.W.keepIn K (.ref f16) = true)
    {f17 : Addr} {oc17 : Value} {od17 an17 : Option Addr} {sl17 : Array (Option Value)} {kV17 dc17 pm17 cd17 ct17 : Value}
    (a17 : PySem.W.nsIn K mainGlobals "without_column" = some (some (.ref f17)))
    (l17 : K.lookup f17 = some ⟨oc17, od17, .func (PySem.W.fnOf "without_column" "without_column" (defArgs (top 26)) (defBody (top 26)) (defScope (top 26)) .none kV17 dc17 pm17 an17 cd17 ct17), sl17⟩) (c17 : PySem.W.codeIn K cd17 "without_column" = true) (k17 : PySem.W.keepIn K (.ref f17) = true)
    {f18 : Addr} {oc18 : Value} {od18 an18 : Option Addr} {sl18 : Array (Option Value)} {kV18 dc18 pm18 cd18 ct18 : Value}
    (a18 : PySem.W.nsIn K mainGlobals "solve" = some (some (.ref f18)))
    (l18 : K.lookup f18 = some ⟨oc18, od18, .func (PySem.W.fnOf "solve" "solve" (defArgs (top 27)) (defBody (top 27)) (defScope (top 27)) .none kV18 dc18 pm18 an18 cd18 ct18), sl18⟩) (c18 : PySem.W.codeIn K cd18 "solve" = true) (k18 : PySem.W.keepIn K (.ref f18) = true)
    {f19 : Addr} {oc19 : Value} {od19 an19 : Option Addr} {sl19 : Array (Option Value)} {kV19 dc19 pm19 cd19 ct19 : Value}
    (a19 : PySem.W.nsIn K mainGlobals "equilibrium" = some (some (.ref f19)))
    (l19 : K.lookup f19 = some ⟨oc19, od19, .func (PySem.W.fnOf "equilibrium" "equilibrium" (defArgs (top 31)) (defBody (top 31)) (defScope (top 31)) .none kV19 dc19 pm19 an19 cd19 ct19), sl19⟩) (c19 : PySem.W.codeIn K cd19 "equilibrium" = true) (k19 : PySem.W.keepIn K (.ref f19) = true)
    {f20 : Addr} {oc20 : Value} {od20 an20 : Option Addr} {sl20 : Array (Option Value)} {kV20 dc20 pm20 cd20 ct20 : Value}
    (a20 : PySem.W.nsIn K mainGlobals "product" = some (some (.ref f20)))
    (l20 : K.lookup f20 = some ⟨oc20, od20, .func (PySem.W.fnOf "product" "product" (defArgs (top 25)) (defBody (top 25)) (defScope (top 25)) .none kV20 dc20 pm20 an20 cd20 ct20), sl20⟩) (c20 : PySem.W.codeIn K cd20 "product" = true) (k20 : PySem.W.keepIn K (.ref f20) = true)
    {f21 : Addr} {oc21 : Value} {od21 an21 : Option Addr} {sl21 : Array (Option Value)} {kV21 dc21 pm21 cd21 ct21 : Value}
    (a21 : PySem.W.nsIn K mainGlobals "judge" = some (some (.ref f21)))
    (l21 : K.lookup f21 = some ⟨oc21, od21, .func (PySem.W.fnOf "judge" "judge" (defArgs (top 32)) (defBody (top 32)) (defScope (top 32)) .none kV21 dc21 pm21 an21 cd21 ct21), sl21⟩) (c21 : PySem.W.codeIn K cd21 "judge" = true) (k21 : PySem.W.keepIn K (.ref f21) = true)
    {f22 : Addr} {oc22 : Value} {od22 an22 : Option Addr} {sl22 : Array (Option Value)} {kV22 dc22 pm22 cd22 ct22 : Value}
    (a22 : PySem.W.nsIn K mainGlobals "_law_times" = some (some (.ref f22)))
    (l22 : K.lookup f22 = some ⟨oc22, od22, .func (PySem.W.fnOf "_law_times" "_law_times" (defArgs (top 38)) (defBody (top 38)) (defScope (top 38)) .none kV22 dc22 pm22 an22 cd22 ct22), sl22⟩) (c22 : PySem.W.codeIn K cd22 "_law_times" = true) (k22 : PySem.W.keepIn K (.ref f22) = true)
    {f23 : Addr} {oc23 : Value} {od23 an23 : Option Addr} {sl23 : Array (Option Value)} {kV23 dc23 pm23 cd23 ct23 : Value}
    (a23 : PySem.W.nsIn K mainGlobals "_law_over" = some (some (.ref f23)))
    (l23 : K.lookup f23 = some ⟨oc23, od23, .func (PySem.W.fnOf "_law_over" "_law_over" (defArgs (top 51)) (defBody (top 51)) (defScope (top 51)) .none kV23 dc23 pm23 an23 cd23 ct23), sl23⟩) (c23 : PySem.W.codeIn K cd23 "_law_over" = true) (k23 : PySem.W.keepIn K (.ref f23) = true)
    {f24 : Addr} {oc24 : Value} {od24 an24 : Option Addr} {sl24 : Array (Option Value)} {kV24 dc24 pm24 cd24 ct24 : Value}
    (a24 : PySem.W.nsIn K mainGlobals "_law_cross" = some (some (.ref f24)))
    (l24 : K.lookup f24 = some ⟨oc24, od24, .func (PySem.W.fnOf "_law_cross" "_law_cross" (defArgs (top 47)) (defBody (top 47)) (defScope (top 47)) .none kV24 dc24 pm24 an24 cd24 ct24), sl24⟩) (c24 : PySem.W.codeIn K cd24 "_law_cross" = true) (k24 : PySem.W.keepIn K (.ref f24) = true)
    {f25 : Addr} {oc25 : Value} {od25 an25 : Option Addr} {sl25 : Array (Option Value)} {kV25 dc25 pm25 cd25 ct25 : Value}
    (a25 : PySem.W.nsIn K mainGlobals "_law_sub" = some (some (.ref f25)))
    (l25 : K.lookup f25 = some ⟨oc25, od25, .func (PySem.W.fnOf "_law_sub" "_law_sub" (defArgs (top 37)) (defBody (top 37)) (defScope (top 37)) .none kV25 dc25 pm25 an25 cd25 ct25), sl25⟩) (c25 : PySem.W.codeIn K cd25 "_law_sub" = true) (k25 : PySem.W.keepIn K (.ref f25) = true)
    {f26 : Addr} {oc26 : Value} {od26 an26 : Option Addr} {sl26 : Array (Option Value)} {kV26 dc26 pm26 cd26 ct26 : Value}
    (a26 : PySem.W.nsIn K mainGlobals "_law_weight" = some (some (.ref f26)))
    (l26 : K.lookup f26 = some ⟨oc26, od26, .func (PySem.W.fnOf "_law_weight" "_law_weight" (defArgs (top 50)) (defBody (top 50)) (defScope (top 50)) .none kV26 dc26 pm26 an26 cd26 ct26), sl26⟩) (c26 : PySem.W.codeIn K cd26 "_law_weight" = true) (k26 : PySem.W.keepIn K (.ref f26) = true)
    {f27 : Addr} {oc27 : Value} {od27 an27 : Option Addr} {sl27 : Array (Option Value)} {kV27 dc27 pm27 cd27 ct27 : Value}
    (a27 : PySem.W.nsIn K mainGlobals "_law_change" = some (some (.ref f27)))
    (l27 : K.lookup f27 = some ⟨oc27, od27, .func (PySem.W.fnOf "_law_change" "_law_change" (defArgs (top 52)) (defBody (top 52)) (defScope (top 52)) .none kV27 dc27 pm27 an27 cd27 ct27), sl27⟩) (c27 : PySem.W.codeIn K cd27 "_law_change" = true) (k27 : PySem.W.keepIn K (.ref f27) = true)
    {f28 : Addr} {oc28 : Value} {od28 an28 : Option Addr} {sl28 : Array (Option Value)} {kV28 dc28 pm28 cd28 ct28 : Value}
    (a28 : PySem.W.nsIn K mainGlobals "_law_demands" = some (some (.ref f28)))
    (l28 : K.lookup f28 = some ⟨oc28, od28, .func (PySem.W.fnOf "_law_demands" "_law_demands" (defArgs (top 48)) (defBody (top 48)) (defScope (top 48)) .none kV28 dc28 pm28 an28 cd28 ct28), sl28⟩) (c28 : PySem.W.codeIn K cd28 "_law_demands" = true) (k28 : PySem.W.keepIn K (.ref f28) = true)
    {f29 : Addr} {oc29 : Value} {od29 an29 : Option Addr} {sl29 : Array (Option Value)} {kV29 dc29 pm29 cd29 ct29 : Value}
    (a29 : PySem.W.nsIn K mainGlobals "_law_less" = some (some (.ref f29)))
    (l29 : K.lookup f29 = some ⟨oc29, od29, .func (PySem.W.fnOf "_law_less" "_law_less" (defArgs (top 39)) (defBody (top 39)) (defScope (top 39)) .none kV29 dc29 pm29 an29 cd29 ct29), sl29⟩) (c29 : PySem.W.codeIn K cd29 "_law_less" = true) (k29 : PySem.W.keepIn K (.ref f29) = true)
    {f30 : Addr} {oc30 : Value} {od30 an30 : Option Addr} {sl30 : Array (Option Value)} {kV30 dc30 pm30 cd30 ct30 : Value}
    (a30 : PySem.W.nsIn K mainGlobals "less" = some (some (.ref f30)))
    (l30 : K.lookup f30 = some ⟨oc30, od30, .func (PySem.W.fnOf "less" "less" (defArgs (top 16)) (defBody (top 16)) (defScope (top 16)) .none kV30 dc30 pm30 an30 cd30 ct30), sl30⟩) (c30 : PySem.W.codeIn K cd30 "less" = true) (k30 : PySem.W.keepIn K (.ref f30) = true)
    {f31 : Addr} {oc31 : Value} {od31 an31 : Option Addr} {sl31 : Array (Option Value)} {kV31 dc31 pm31 cd31 ct31 : Value}
    (a31 : PySem.W.findIn K (.ref x_Market) "names" = some (some (.ref f31))) (i31 : PySem.W.isFn K (.ref f31) = true)
    (l31 : K.lookup f31 = some ⟨oc31, od31, .func (PySem.W.fnOf "names" "Market.names" (defArgs (meth 22 3)) (defBody (meth 22 3)) (defScope (meth 22 3)) .none kV31 dc31 pm31 an31 cd31 ct31), sl31⟩) (c31 : PySem.W.codeIn K cd31 "Market.names" = true) (k31 : PySem.W.keepIn K (.ref f31) = true)
    {f32 : Addr} {oc32 : Value} {od32 an32 : Option Addr} {sl32 : Array (Option Value)} {kV32 dc32 pm32 cd32 ct32 : Value}
    (a32 : PySem.W.findIn K (.ref x_Market) "demands" = some (some (.ref f32))) (i32 : PySem.W.isFn K (.ref f32) = true)
    (l32 : K.lookup f32 = some ⟨oc32, od32, .func (PySem.W.fnOf "demands" "Market.demands" (defArgs (meth 22 9)) (defBody (meth 22 9)) (defScope (meth 22 9)) .none kV32 dc32 pm32 an32 cd32 ct32), sl32⟩) (c32 : PySem.W.codeIn K cd32 "Market.demands" = true) (k32 : PySem.W.keepIn K (.ref f32) = true)
    {f33 : Addr} {oc33 : Value} {od33 an33 : Option Addr} {sl33 : Array (Option Value)} {kV33 dc33 pm33 cd33 ct33 : Value}
    (a33 : PySem.W.nsIn K mainGlobals "is_lively" = some (some (.ref f33)))
    (l33 : K.lookup f33 = some ⟨oc33, od33, .func (PySem.W.fnOf "is_lively" "is_lively" (defArgs (top 33)) (defBody (top 33)) (defScope (top 33)) .none kV33 dc33 pm33 an33 cd33 ct33), sl33⟩) (c33 : PySem.W.codeIn K cd33 "is_lively" = true) (k33 : PySem.W.keepIn K (.ref f33) = true)
    {f34 : Addr} {oc34 : Value} {od34 an34 : Option Addr} {sl34 : Array (Option Value)} {kV34 dc34 pm34 cd34 ct34 : Value}
    (a34 : PySem.W.nsIn K mainGlobals "is_name" = some (some (.ref f34)))
    (l34 : K.lookup f34 = some ⟨oc34, od34, .func (PySem.W.fnOf "is_name" "is_name" (defArgs (top 21)) (defBody (top 21)) (defScope (top 21)) .none kV34 dc34 pm34 an34 cd34 ct34), sl34⟩) (c34 : PySem.W.codeIn K cd34 "is_name" = true) (k34 : PySem.W.keepIn K (.ref f34) = true)
    {f35 : Addr} {oc35 : Value} {od35 an35 : Option Addr} {sl35 : Array (Option Value)} {kV35 dc35 pm35 cd35 ct35 : Value}
    (a35 : PySem.W.findIn K (.ref x_Market) "_check_products" = some (some (.ref f35))) (i35 : PySem.W.isFn K (.ref f35) = true)
    (l35 : K.lookup f35 = some ⟨oc35, od35, .func (PySem.W.fnOf "_check_products" "Market._check_products" (defArgs (meth 22 1)) (defBody (meth 22 1)) (defScope (meth 22 1)) .none kV35 dc35 pm35 an35 cd35 ct35), sl35⟩) (c35 : PySem.W.codeIn K cd35 "Market._check_products" = true) (k35 : PySem.W.keepIn K (.ref f35) = true)
    {f36 : Addr} {oc36 : Value} {od36 an36 : Option Addr} {sl36 : Array (Option Value)} {kV36 dc36 pm36 cd36 ct36 : Value}
    (a36 : PySem.W.findIn K (.ref x_Market) "_add_rivalry" = some (some (.ref f36))) (i36 : PySem.W.isFn K (.ref f36) = true)
    (l36 : K.lookup f36 = some ⟨oc36, od36, .func (PySem.W.fnOf "_add_rivalry" "Market._add_rivalry" (defArgs (meth 22 2)) (defBody (meth 22 2)) (defScope (meth 22 2)) .none kV36 dc36 pm36 an36 cd36 ct36), sl36⟩) (c36 : PySem.W.codeIn K cd36 "Market._add_rivalry" = true) (k36 : PySem.W.keepIn K (.ref f36) = true)
    {f37 : Addr} {oc37 : Value} {od37 an37 : Option Addr} {sl37 : Array (Option Value)} {kV37 dc37 pm37 cd37 ct37 : Value}
    (a37 : PySem.W.findIn K (.ref x_Market) "__init__" = some (some (.ref f37))) (i37 : PySem.W.isFn K (.ref f37) = true)
    (l37 : K.lookup f37 = some ⟨oc37, od37, .func (PySem.W.fnOf "__init__" "Market.__init__" (defArgs (meth 22 0)) (defBody (meth 22 0)) (defScope (meth 22 0)) .none kV37 dc37 pm37 an37 cd37 ct37), sl37⟩) (c37 : PySem.W.codeIn K cd37 "Market.__init__" = true) (k37 : PySem.W.keepIn K (.ref f37) = true)
    {f38 : Addr} {oc38 : Value} {od38 an38 : Option Addr} {sl38 : Array (Option Value)} {kV38 dc38 pm38 cd38 ct38 : Value}
    (a38 : PySem.W.nsIn K mainGlobals "law" = some (some (.ref f38)))
    (l38 : K.lookup f38 = some ⟨oc38, od38, .func (PySem.W.fnOf "law" "law" (defArgs (top 53)) (defBody (top 53)) (defScope (top 53)) .none kV38 dc38 pm38 an38 cd38 ct38), sl38⟩) (c38 : PySem.W.codeIn K cd38 "law" = true) (k38 : PySem.W.keepIn K (.ref f38) = true)
    (z_int : PySem.W.nsIn K mainGlobals "int" = some none)
    (z_range : PySem.W.nsIn K mainGlobals "range" = some none)
    (z_len : PySem.W.nsIn K mainGlobals "len" = some none)
    (z_sorted : PySem.W.nsIn K mainGlobals "sorted" = some none)
    (z_abs : PySem.W.nsIn K mainGlobals "abs" = some none)
    (z_isinstance : PySem.W.nsIn K mainGlobals "isinstance" = some none)
    (z_bool : PySem.W.nsIn K mainGlobals "bool" = some none)
    (z_zip : PySem.W.nsIn K mainGlobals "zip" = some none)
    (z_list : PySem.W.nsIn K mainGlobals "list" = some none)
    (z_enumerate : PySem.W.nsIn K mainGlobals "enumerate" = some none)
    {g_ZERO_market : Addr} {go_ZERO_market : Obj} {gn_ZERO_market : Nat} {gt_ZERO_market_0 : Tok} {gt_ZERO_market_1 : Tok} (gc_ZERO_market : PySem.W.nsIn K mainGlobals "ZERO_market" = some (some (.ref g_ZERO_market))) (gl_ZERO_market : K.lookup g_ZERO_market = some go_ZERO_market) (gt_ZERO_market : go_ZERO_market.cls = .type "tuple") (gd_ZERO_market : go_ZERO_market.data = .seq #[.int 0 gt_ZERO_market_0, .int 1 gt_ZERO_market_1] gn_ZERO_market)
    {g_TWO : Addr} {go_TWO : Obj} {gn_TWO : Nat} {gt_TWO_0 : Tok} {gt_TWO_1 : Tok} (gc_TWO : PySem.W.nsIn K mainGlobals "TWO" = some (some (.ref g_TWO))) (gl_TWO : K.lookup g_TWO = some go_TWO) (gt_TWO : go_TWO.cls = .type "tuple") (gd_TWO : go_TWO.data = .seq #[.int 2 gt_TWO_0, .int 1 gt_TWO_1] gn_TWO)
    {g_ZERO_matrix : Addr} {go_ZERO_matrix : Obj} {gn_ZERO_matrix : Nat} {gt_ZERO_matrix_0 : Tok} {gt_ZERO_matrix_1 : Tok} (gc_ZERO_matrix : PySem.W.nsIn K mainGlobals "ZERO_matrix" = some (some (.ref g_ZERO_matrix))) (gl_ZERO_matrix : K.lookup g_ZERO_matrix = some go_ZERO_matrix) (gt_ZERO_matrix : go_ZERO_matrix.cls = .type "tuple") (gd_ZERO_matrix : go_ZERO_matrix.data = .seq #[.int 0 gt_ZERO_matrix_0, .int 1 gt_ZERO_matrix_1] gn_ZERO_matrix)
    {gt_LETTERS : Tok} (gc_LETTERS : PySem.W.nsIn K mainGlobals "LETTERS" = some (some (.str (Str.ofString "abcdefghijklmnopqrstuvwxyz") gt_LETTERS)))
    {gt_MOST_PRODUCTS : Tok} (gc_MOST_PRODUCTS : PySem.W.nsIn K mainGlobals "MOST_PRODUCTS" = some (some (.int 6 gt_MOST_PRODUCTS)))
    {x_InvalidRatio : Addr} (xa_InvalidRatio : PySem.W.nsIn K mainGlobals "InvalidRatio" = some (some (.ref x_InvalidRatio)))
    {x_Singular : Addr} (xa_Singular : PySem.W.nsIn K mainGlobals "Singular" = some (some (.ref x_Singular)))
    {x_InvalidMarket : Addr} (xa_InvalidMarket : PySem.W.nsIn K mainGlobals "InvalidMarket" = some (some (.ref x_InvalidMarket)))
    {x_DuplicateName : Addr} (xa_DuplicateName : PySem.W.nsIn K mainGlobals "DuplicateName" = some (some (.ref x_DuplicateName)))
    {x_UnknownName : Addr} (xa_UnknownName : PySem.W.nsIn K mainGlobals "UnknownName" = some (some (.ref x_UnknownName)))
    (xe_InvalidRatio : PySem.W.excIn K x_InvalidRatio [.type "ValueError", .type "Exception", .type "BaseException", .type "object"] "ValueError.__new__" = true) (xk_InvalidRatio : PySem.W.keepIn K (.ref x_InvalidRatio) = true) (xs_InvalidRatio : PySem.W.subIn K (.ref x_InvalidRatio) (.type "BaseException") = some true) (xt_InvalidRatio : PySem.W.typeIn K (.ref x_InvalidRatio) = some (.type "type"))
    (xe_Singular : PySem.W.excIn K x_Singular [.type "ValueError", .type "Exception", .type "BaseException", .type "object"] "ValueError.__new__" = true) (xk_Singular : PySem.W.keepIn K (.ref x_Singular) = true) (xs_Singular : PySem.W.subIn K (.ref x_Singular) (.type "BaseException") = some true) (xt_Singular : PySem.W.typeIn K (.ref x_Singular) = some (.type "type"))
    (xe_InvalidMarket : PySem.W.excIn K x_InvalidMarket [.type "ValueError", .type "Exception", .type "BaseException", .type "object"] "ValueError.__new__" = true) (xk_InvalidMarket : PySem.W.keepIn K (.ref x_InvalidMarket) = true) (xs_InvalidMarket : PySem.W.subIn K (.ref x_InvalidMarket) (.type "BaseException") = some true) (xt_InvalidMarket : PySem.W.typeIn K (.ref x_InvalidMarket) = some (.type "type"))
    (xe_DuplicateName : PySem.W.excIn K x_DuplicateName [.type "ValueError", .type "Exception", .type "BaseException", .type "object"] "ValueError.__new__" = true) (xk_DuplicateName : PySem.W.keepIn K (.ref x_DuplicateName) = true) (xs_DuplicateName : PySem.W.subIn K (.ref x_DuplicateName) (.type "BaseException") = some true) (xt_DuplicateName : PySem.W.typeIn K (.ref x_DuplicateName) = some (.type "type"))
    (xe_UnknownName : PySem.W.excIn K x_UnknownName [.type "ValueError", .type "Exception", .type "BaseException", .type "object"] "ValueError.__new__" = true) (xk_UnknownName : PySem.W.keepIn K (.ref x_UnknownName) = true) (xs_UnknownName : PySem.W.subIn K (.ref x_UnknownName) (.type "BaseException") = some true) (xt_UnknownName : PySem.W.typeIn K (.ref x_UnknownName) = some (.type "type")) :
    ∃ fd : FuncData, (∀ (s : Shared) (v : Value), BindsTo s fd ⟨[v], []⟩ [("_law_script", v)]) ∧ ∀ base : Heap, K.In base → base.Ns mainGlobals mg → FnOk l.prog w K mg base (L2.CX l.prog w) 8 fa fd ["_law_script"] (spLaw K) := by
  have e0 := hfa.symm.trans (PySem.W.mg_of X G0 a38)
  cases e0
  obtain ⟨G, hG⟩ : ∃ G : Cl, G = ⟨fun c => if c = 0 then x_Market else 0, fun t => if t = 3 then x_UnknownName else if t = 4 then x_DuplicateName else if t = 2 then x_InvalidMarket else if t = 1 then x_Singular else if t = 0 then x_InvalidRatio else 0⟩ := ⟨_, rfl⟩
  have T : Txt K mg G := ⟨PySem.W.mg_none_of X G0 z_int, PySem.W.mg_none_of X G0 z_range, PySem.W.mg_none_of X G0 z_len, PySem.W.mg_none_of X G0 z_sorted, PySem.W.mg_none_of X G0 z_abs, PySem.W.mg_none_of X G0 z_isinstance, PySem.W.mg_none_of X G0 z_bool, PySem.W.mg_none_of X G0 z_zip, PySem.W.mg_none_of X G0 z_list, PySem.W.mg_none_of X G0 z_enumerate, ⟨.ref g_ZERO_market, .ref g_ZERO_market, PySem.W.mg_of X G0 gc_ZERO_market, rfl, fun S => .tup (.inr ⟨go_ZERO_market, _, gn_ZERO_market, gl_ZERO_market, gt_ZERO_market, gd_ZERO_market, (show 2 ≤ sizeLine by decide), .cons (show RelV (.int 0) _ from ⟨_, rfl⟩) (.cons (show RelV (.int 1) _ from ⟨_, rfl⟩) (.nil))⟩) (.cons (.int 0) (.cons (.int 1) (.nil)))⟩, ⟨.ref g_TWO, .ref g_TWO, PySem.W.mg_of X G0 gc_TWO, rfl, fun S => .tup (.inr ⟨go_TWO, _, gn_TWO, gl_TWO, gt_TWO, gd_TWO, (show 2 ≤ sizeLine by decide), .cons (show RelV (.int 2) _ from ⟨_, rfl⟩) (.cons (show RelV (.int 1) _ from ⟨_, rfl⟩) (.nil))⟩) (.cons (.int 2) (.cons (.int 1) (.nil)))⟩, ⟨.ref g_ZERO_matrix, .ref g_ZERO_matrix, PySem.W.mg_of X G0 gc_ZERO_matrix, rfl, fun S => .tup (.inr ⟨go_ZERO_matrix, _, gn_ZERO_matrix, gl_ZERO_matrix, gt_ZERO_matrix, gd_ZERO_matrix, (show 2 ≤ sizeLine by decide), .cons (show RelV (.int 0) _ from ⟨_, rfl⟩) (.cons (show RelV (.int 1) _ from ⟨_, rfl⟩) (.nil))⟩) (.cons (.int 0) (.cons (.int 1) (.nil)))⟩, ⟨.str _, _, PySem.W.mg_of X G0 gc_LETTERS, ⟨_, rfl⟩, fun S => .str _⟩, ⟨.int 6, _, PySem.W.mg_of X G0 gc_MOST_PRODUCTS, ⟨_, rfl⟩, fun S => .int 6⟩, ⟨⟨x_InvalidRatio, PySem.W.mg_of X G0 xa_InvalidRatio, by rw [hG]; rfl, xe_InvalidRatio, xk_InvalidRatio, xs_InvalidRatio, xt_InvalidRatio⟩, fun n z => by cases z⟩, ⟨⟨x_Singular, PySem.W.mg_of X G0 xa_Singular, by rw [hG]; rfl, xe_Singular, xk_Singular, xs_Singular, xt_Singular⟩, fun n z => by cases z⟩, ⟨⟨x_InvalidMarket, PySem.W.mg_of X G0 xa_InvalidMarket, by rw [hG]; rfl, xe_InvalidMarket, xk_InvalidMarket, xs_InvalidMarket, xt_InvalidMarket⟩, fun n z => by cases z⟩, ⟨⟨x_DuplicateName, PySem.W.mg_of X G0 xa_DuplicateName, by rw [hG]; rfl, xe_DuplicateName, xk_DuplicateName, xs_DuplicateName, xt_DuplicateName⟩, fun n z => by cases z⟩, ⟨⟨x_UnknownName, PySem.W.mg_of X G0 xa_UnknownName, by rw [hG]; rfl, xe_UnknownName, xk_UnknownName, xs_UnknownName, xt_UnknownName⟩, fun n z => by cases z⟩, ⟨by rw [hG]; exact ⟨pg_Market, hd_Market, po_Market, sa_Market⟩⟩, ⟨by rw [hG]; exact nf_Market__crosses⟩, ⟨by rw [hG]; exact nf_Market_products⟩⟩
  have F0 := fun_mk (st := top 41) l0 c0 k0
  have b0 := F0.binds (ps := ["_law_cell_here"]) fun _ _ _ _ _ _ us hl => match us, hl with | [_], _ => rfl
  have F1 := fun_mk (st := top 40) l1 c1 k1
  have b1 := F1.binds (ps := ["_law_script", "_law_k"]) fun _ _ _ _ _ _ us hl => match us, hl with | [_, _], _ => rfl
  have F2 := fun_mk (st := top 42) l2 c2 k2
  have b2 := F2.binds (ps := ["_law_script"]) fun _ _ _ _ _ _ us hl => match us, hl with | [_], _ => rfl
  have F3 := fun_mk (st := top 35) l3 c3 k3
  have b3 := F3.binds (ps := ["_law_n", "_law_d"]) fun _ _ _ _ _ _ us hl => match us, hl with | [_, _], _ => rfl
  have F4 := fun_mk (st := top 45) l4 c4 k4
  have b4 := F4.binds (ps := ["_law_script"]) fun _ _ _ _ _ _ us hl => match us, hl with | [_], _ => rfl
  have F5 := fun_mk (st := top 36) l5 c5 k5
  have b5 := F5.binds (ps := ["_law_x", "_law_y"]) fun _ _ _ _ _ _ us hl => match us, hl with | [_, _], _ => rfl
  have F6 := fun_mk (st := top 43) l6 c6 k6
  have b6 := F6.binds (ps := ["_law_script"]) fun _ _ _ _ _ _ us hl => match us, hl with | [_], _ => rfl
  have F7 := fun_mk (st := top 46) l7 c7 k7
  have b7 := F7.binds (ps := ["_law_script"]) fun _ _ _ _ _ _ us hl => match us, hl with | [_], _ => rfl
  have F8 := fun_mk (st := top 9) l8 c8 k8
  have b8 := F8.binds (ps := ["value"]) fun _ _ _ _ _ _ us hl => match us, hl with | [_], _ => rfl
  have F9 := fun_mk (st := top 10) l9 c9 k9
  have b9 := F9.binds (ps := ["a", "b"]) fun _ _ _ _ _ _ us hl => match us, hl with | [_, _], _ => rfl
  have F10 : FunD K "ratio" "ratio" (defArgs (top 11)) (defBody (top 11)) (defScope (top 11)) [.int 1] [] f10 _ := ⟨⟨oc10, od10, dV10, kV10, dc10, pm10, an10, cd10, ct10, sl10, rfl, l10, c10, .inr ⟨by simp, dT10, dO10, _, dn10, dv10, dl10, dd10, .cons ⟨_, rfl⟩ (.nil)⟩, .inl rfl⟩, k10⟩
  have F11 := fun_mk (st := top 12) l11 c11 k11
  have b11 := F11.binds (ps := ["a", "b"]) fun _ _ _ _ _ _ us hl => match us, hl with | [_, _], _ => rfl
  have F12 := fun_mk (st := top 14) l12 c12 k12
  have b12 := F12.binds (ps := ["a", "b"]) fun _ _ _ _ _ _ us hl => match us, hl with | [_, _], _ => rfl
  have F13 := fun_mk (st := top 13) l13 c13 k13
  have b13 := F13.binds (ps := ["a", "b"]) fun _ _ _ _ _ _ us hl => match us, hl with | [_, _], _ => rfl
  have F14 := fun_mk (st := meth 22 7) l14 c14 k14
  have b14 := F14.binds (ps := ["self", "one", "other"]) fun _ _ _ _ _ _ us hl => match us, hl with | [_, _, _], _ => rfl
  have F15 := fun_mk (st := top 30) l15 c15 k15
  have b15 := F15.binds (ps := ["market"]) fun _ _ _ _ _ _ us hl => match us, hl with | [_], _ => rfl
  have F16 := fun_mk (st := top 15) l16 c16 k16
  have b16 := F16.binds (ps := ["a", "b"]) fun _ _ _ _ _ _ us hl => match us, hl with | [_, _], _ => rfl
  have F17 := fun_mk (st := top 26) l17 c17 k17
  have b17 := F17.binds (ps := ["row", "own", "at"]) fun _ _ _ _ _ _ us hl => match us, hl with | [_, _, _], _ => rfl
  have F18 := fun_mk (st := top 27) l18 c18 k18
  have b18 := F18.binds (ps := ["rows", "right"]) fun _ _ _ _ _ _ us hl => match us, hl with | [_, _], _ => rfl
  have F19 := fun_mk (st := top 31) l19 c19 k19
  have b19 := F19.binds (ps := ["market"]) fun _ _ _ _ _ _ us hl => match us, hl with | [_], _ => rfl
  have F20 := fun_mk (st := top 25) l20 c20 k20
  have b20 := F20.binds (ps := ["rows", "values"]) fun _ _ _ _ _ _ us hl => match us, hl with | [_, _], _ => rfl
  have F21 := fun_mk (st := top 32) l21 c21 k21
  have b21 := F21.binds (ps := ["market", "prices"]) fun _ _ _ _ _ _ us hl => match us, hl with | [_, _], _ => rfl
  have F22 := fun_mk (st := top 38) l22 c22 k22
  have b22 := F22.binds (ps := ["_law_x", "_law_y"]) fun _ _ _ _ _ _ us hl => match us, hl with | [_, _], _ => rfl
  have F23 := fun_mk (st := top 51) l23 c23 k23
  have b23 := F23.binds (ps := ["_law_x", "_law_y"]) fun _ _ _ _ _ _ us hl => match us, hl with | [_, _], _ => rfl
  have F24 := fun_mk (st := top 47) l24 c24 k24
  have b24 := F24.binds (ps := ["_law_rivalries_here", "_law_one", "_law_other"]) fun _ _ _ _ _ _ us hl => match us, hl with | [_, _, _], _ => rfl
  have F25 := fun_mk (st := top 37) l25 c25 k25
  have b25 := F25.binds (ps := ["_law_x", "_law_y"]) fun _ _ _ _ _ _ us hl => match us, hl with | [_, _], _ => rfl
  have F26 := fun_mk (st := top 50) l26 c26 k26
  have b26 := F26.binds (ps := ["_law_products_here", "_law_rivalries_here", "_law_j"]) fun _ _ _ _ _ _ us hl => match us, hl with | [_, _, _], _ => rfl
  have F27 := fun_mk (st := top 52) l27 c27 k27
  have b27 := F27.binds (ps := ["_law_products_here", "_law_rivalries_here", "_law_prices", "_law_cell_here"]) fun _ _ _ _ _ _ us hl => match us, hl with | [_, _, _, _], _ => rfl
  have F28 := fun_mk (st := top 48) l28 c28 k28
  have b28 := F28.binds (ps := ["_law_products_here", "_law_rivalries_here", "_law_prices"]) fun _ _ _ _ _ _ us hl => match us, hl with | [_, _, _], _ => rfl
  have F29 := fun_mk (st := top 39) l29 c29 k29
  have b29 := F29.binds (ps := ["_law_x", "_law_y"]) fun _ _ _ _ _ _ us hl => match us, hl with | [_, _], _ => rfl
  have F30 := fun_mk (st := top 16) l30 c30 k30
  have b30 := F30.binds (ps := ["a", "b"]) fun _ _ _ _ _ _ us hl => match us, hl with | [_, _], _ => rfl
  have F31 := fun_mk (st := meth 22 3) l31 c31 k31
  have b31 := F31.binds (ps := ["self"]) fun _ _ _ _ _ _ us hl => match us, hl with | [_], _ => rfl
  have F32 := fun_mk (st := meth 22 9) l32 c32 k32
  have b32 := F32.binds (ps := ["self", "prices"]) fun _ _ _ _ _ _ us hl => match us, hl with | [_, _], _ => rfl
  have F33 := fun_mk (st := top 33) l33 c33 k33
  have b33 := F33.binds (ps := ["market"]) fun _ _ _ _ _ _ us hl => match us, hl with | [_], _ => rfl
  have F34 := fun_mk (st := top 21) l34 c34 k34
  have b34 := F34.binds (ps := ["text"]) fun _ _ _ _ _ _ us hl => match us, hl with | [_], _ => rfl
  have F35 := fun_mk (st := meth 22 1) l35 c35 k35
  have b35 := F35.binds (ps := ["self", "products"]) fun _ _ _ _ _ _ us hl => match us, hl with | [_, _], _ => rfl
  have F36 := fun_mk (st := meth 22 2) l36 c36 k36
  have b36 := F36.binds (ps := ["self", "one", "other", "cross"]) fun _ _ _ _ _ _ us hl => match us, hl with | [_, _, _, _], _ => rfl
  have F37 := fun_mk (st := meth 22 0) l37 c37 k37
  have b37 := F37.binds (ps := ["self", "products", "rivalries"]) fun _ _ _ _ _ _ us hl => match us, hl with | [_, _, _], _ => rfl
  have F38 := fun_mk (st := top 53) l38 c38 k38
  have b38 := F38.binds (ps := ["_law_script"]) fun _ _ _ _ _ _ us hl => match us, hl with | [_], _ => rfl
  refine ⟨PySem.W.fnOf "law" "law" (defArgs (top 53)) (defBody (top 53)) (defScope (top 53)) .none kV38 dc38 pm38 an38 cd38 ct38, fun s v => .of_eq rfl, fun base _ _ => ?_⟩
  have o0 := okm__law_words (P := l.prog) (w := w) (base := base) F0 T 
  have d__law_words : DefO l.prog w K mg base G "_law_words" 1 .o RM.m__law_words 1 [] := ⟨_, _, _, _, [], o0, PySem.W.mg_of X G0 a0, k0, b0, .nil, fun _ => .nil⟩
  have o1 := okm__law_cell (P := l.prog) (w := w) (base := base) F1 T 
  have d__law_cell : DefO l.prog w K mg base G "_law_cell" 2 .d RM.m__law_cell 1 [] := ⟨_, _, _, _, [], o1, PySem.W.mg_of X G0 a1, k1, b1, .nil, fun _ => .nil⟩
  have o2 := okm__law_names (P := l.prog) (w := w) (base := base) F2 T d__law_cell d__law_words
  have d__law_names : DefO l.prog w K mg base G "_law_names" 1 .d RM.m__law_names 2 [] := ⟨_, _, _, _, [], o2, PySem.W.mg_of X G0 a2, k2, b2, .nil, fun _ => .nil⟩
  have o3 := okm__law_ratio (P := l.prog) (w := w) (base := base) F3 T 
  have d__law_ratio : DefO l.prog w K mg base G "_law_ratio" 2 .d RM.m__law_ratio 1 [] := ⟨_, _, _, _, [], o3, PySem.W.mg_of X G0 a3, k3, b3, .nil, fun _ => .nil⟩
  have o4 := okm__law_rivalries (P := l.prog) (w := w) (base := base) F4 T d__law_names d__law_cell d__law_ratio
  have d__law_rivalries : DefO l.prog w K mg base G "_law_rivalries" 1 .o RM.m__law_rivalries 3 [] := ⟨_, _, _, _, [], o4, PySem.W.mg_of X G0 a4, k4, b4, .nil, fun _ => .nil⟩
  have o5 := okm__law_add (P := l.prog) (w := w) (base := base) F5 T d__law_ratio
  have d__law_add : DefO l.prog w K mg base G "_law_add" 2 .d RM.m__law_add 2 [] := ⟨_, _, _, _, [], o5, PySem.W.mg_of X G0 a5, k5, b5, .nil, fun _ => .nil⟩
  have o6 := okm__law_owners (P := l.prog) (w := w) (base := base) F6 T d__law_cell d__law_words
  have d__law_owners : DefO l.prog w K mg base G "_law_owners" 1 .d RM.m__law_owners 2 [] := ⟨_, _, _, _, [], o6, PySem.W.mg_of X G0 a6, k6, b6, .nil, fun _ => .nil⟩
  have o7 := okm__law_products (P := l.prog) (w := w) (base := base) F7 T d__law_names d__law_cell d__law_rivalries d__law_add d__law_ratio d__law_owners
  have d__law_products : DefO l.prog w K mg base G "_law_products" 1 .o RM.m__law_products 4 [] := ⟨_, _, _, _, [], o7, PySem.W.mg_of X G0 a7, k7, b7, .nil, fun _ => .nil⟩
  have o8 := okm_is_integer (P := l.prog) (w := w) (base := base) F8 T 
  have d_is_integer : DefO l.prog w K mg base G "is_integer" 1 .d RV.m_is_integer 1 [] := ⟨_, _, _, _, [], o8, PySem.W.mg_of X G0 a8, k8, b8, .nil, fun _ => .nil⟩
  have o9 := okm_common_divisor (P := l.prog) (w := w) (base := base) F9 T 
  have d_common_divisor : DefO l.prog w K mg base G "common_divisor" 2 .d RV.m_common_divisor 1 [] := ⟨_, _, _, _, [], o9, PySem.W.mg_of X G0 a9, k9, b9, .nil, fun _ => .nil⟩
  have o10 := okm_ratio (P := l.prog) (w := w) (base := base) F10 T d_is_integer d_common_divisor
  have d_ratio : DefO l.prog w K mg base G "ratio" 2 .d RV.m_ratio 2 [] := defD_mk0 o10 (PySem.W.mg_of X G0 a10) k10 F10 (by simp) rfl (fun _ _ _ _ _ _ _ us its hl hi => match us, its, hl, hi with | [_, _], [_], _, _ => ⟨_, rfl, rfl⟩)
  have o11 := okm_add (P := l.prog) (w := w) (base := base) F11 T d_ratio
  have d_add : DefO l.prog w K mg base G "add" 2 .d RV.m_add 3 [] := ⟨_, _, _, _, [], o11, PySem.W.mg_of X G0 a11, k11, b11, .nil, fun _ => .nil⟩
  have o12 := okm_times (P := l.prog) (w := w) (base := base) F12 T d_ratio
  have d_times : DefO l.prog w K mg base G "times" 2 .d RV.m_times 3 [] := ⟨_, _, _, _, [], o12, PySem.W.mg_of X G0 a12, k12, b12, .nil, fun _ => .nil⟩
  have o13 := okm_sub (P := l.prog) (w := w) (base := base) F13 T d_ratio
  have d_sub : DefO l.prog w K mg base G "sub" 2 .d RV.m_sub 3 [] := ⟨_, _, _, _, [], o13, PySem.W.mg_of X G0 a13, k13, b13, .nil, fun _ => .nil⟩
  have o14 := okm_Market_cross (P := l.prog) (w := w) (base := base) F14 T 
  have dm_Market_cross : MethO l.prog w K mg base G 0 "cross" 3 .d RM.m_Market_cross 1 [] := ⟨_, _, _, _, [], o14, by rw [hG]; exact ⟨a14, i14, k14⟩, b14, .nil, fun _ => .nil⟩
  have o15 := okm_equations (P := l.prog) (w := w) (base := base) F15 T d_times d_add d_sub dm_Market_cross
  have d_equations : DefO l.prog w K mg base G "equations" 1 .d RM.m_equations 4 [] := ⟨_, _, _, _, [], o15, PySem.W.mg_of X G0 a15, k15, b15, .nil, fun _ => .nil⟩
  have o16 := okm_over (P := l.prog) (w := w) (base := base) F16 T d_ratio
  have d_over : DefO l.prog w K mg base G "over" 2 .d RV.m_over 3 [] := ⟨_, _, _, _, [], o16, PySem.W.mg_of X G0 a16, k16, b16, .nil, fun _ => .nil⟩
  have o17 := okm_without_column (P := l.prog) (w := w) (base := base) F17 T d_over d_times d_sub
  have d_without_column : DefO l.prog w K mg base G "without_column" 3 .o RV.m_without_column 4 [] := ⟨_, _, _, _, [], o17, PySem.W.mg_of X G0 a17, k17, b17, .nil, fun _ => .nil⟩
  have o18 := okm_solve (P := l.prog) (w := w) (base := base) F18 T d_without_column d_over
  have d_solve : DefO l.prog w K mg base G "solve" 2 .o RV.m_solve 5 [] := ⟨_, _, _, _, [], o18, PySem.W.mg_of X G0 a18, k18, b18, .nil, fun _ => .nil⟩
  have o19 := okm_equilibrium (P := l.prog) (w := w) (base := base) F19 T d_equations d_solve
  have d_equilibrium : DefO l.prog w K mg base G "equilibrium" 1 .o RM.m_equilibrium 6 [] := ⟨_, _, _, _, [], o19, PySem.W.mg_of X G0 a19, k19, b19, .nil, fun _ => .nil⟩
  have o20 := okm_product (P := l.prog) (w := w) (base := base) F20 T d_times d_add
  have d_product : DefO l.prog w K mg base G "product" 2 .o RV.m_product 4 [] := ⟨_, _, _, _, [], o20, PySem.W.mg_of X G0 a20, k20, b20, .nil, fun _ => .nil⟩
  have o21 := okm_judge (P := l.prog) (w := w) (base := base) F21 T d_equations d_product
  have d_judge : DefO l.prog w K mg base G "judge" 2 .d RM.m_judge 5 [] := ⟨_, _, _, _, [], o21, PySem.W.mg_of X G0 a21, k21, b21, .nil, fun _ => .nil⟩
  have o22 := okm__law_times (P := l.prog) (w := w) (base := base) F22 T d__law_ratio
  have d__law_times : DefO l.prog w K mg base G "_law_times" 2 .d RM.m__law_times 2 [] := ⟨_, _, _, _, [], o22, PySem.W.mg_of X G0 a22, k22, b22, .nil, fun _ => .nil⟩
  have o23 := okm__law_over (P := l.prog) (w := w) (base := base) F23 T d__law_ratio
  have d__law_over : DefO l.prog w K mg base G "_law_over" 2 .d RM.m__law_over 2 [] := ⟨_, _, _, _, [], o23, PySem.W.mg_of X G0 a23, k23, b23, .nil, fun _ => .nil⟩
  have o24 := okm__law_cross (P := l.prog) (w := w) (base := base) F24 T 
  have d__law_cross : DefO l.prog w K mg base G "_law_cross" 3 .d RM.m__law_cross 1 [] := ⟨_, _, _, _, [], o24, PySem.W.mg_of X G0 a24, k24, b24, .nil, fun _ => .nil⟩
  have o25 := okm__law_sub (P := l.prog) (w := w) (base := base) F25 T d__law_ratio
  have d__law_sub : DefO l.prog w K mg base G "_law_sub" 2 .d RM.m__law_sub 2 [] := ⟨_, _, _, _, [], o25, PySem.W.mg_of X G0 a25, k25, b25, .nil, fun _ => .nil⟩
  have o26 := okm__law_weight (P := l.prog) (w := w) (base := base) F26 T d__law_times d__law_cross d__law_sub
  have d__law_weight : DefO l.prog w K mg base G "_law_weight" 3 .d m__law_weight 3 [] := ⟨_, _, _, _, [], o26, PySem.W.mg_of X G0 a26, k26, b26, .nil, fun _ => .nil⟩
  have o27 := okm__law_change (P := l.prog) (w := w) (base := base) F27 T d__law_ratio d__law_add d__law_times d__law_weight d__law_over d__law_sub
  have d__law_change : DefO l.prog w K mg base G "_law_change" 4 .o m__law_change 4 [] := ⟨_, _, _, _, [], o27, PySem.W.mg_of X G0 a27, k27, b27, .nil, fun _ => .nil⟩
  have o28 := okm__law_demands (P := l.prog) (w := w) (base := base) F28 T d__law_times d__law_sub d__law_cross d__law_add
  have d__law_demands : DefO l.prog w K mg base G "_law_demands" 3 .o RM.m__law_demands 3 [] := ⟨_, _, _, _, [], o28, PySem.W.mg_of X G0 a28, k28, b28, .nil, fun _ => .nil⟩
  have o29 := okm__law_less (P := l.prog) (w := w) (base := base) F29 T 
  have d__law_less : DefO l.prog w K mg base G "_law_less" 2 .d RM.m__law_less 1 [] := ⟨_, _, _, _, [], o29, PySem.W.mg_of X G0 a29, k29, b29, .nil, fun _ => .nil⟩
  have o30 := okm_less (P := l.prog) (w := w) (base := base) F30 T 
  have d_less : DefO l.prog w K mg base G "less" 2 .d RV.m_less 1 [] := ⟨_, _, _, _, [], o30, PySem.W.mg_of X G0 a30, k30, b30, .nil, fun _ => .nil⟩
  have o31 := okm_Market_names (P := l.prog) (w := w) (base := base) F31 T 
  have dm_Market_names : MethO l.prog w K mg base G 0 "names" 1 .o RM.m_Market_names 1 [] := ⟨_, _, _, _, [], o31, by rw [hG]; exact ⟨a31, i31, k31⟩, b31, .nil, fun _ => .nil⟩
  have o32 := okm_Market_demands (P := l.prog) (w := w) (base := base) F32 T d_times d_sub d_add dm_Market_names dm_Market_cross
  have dm_Market_demands : MethO l.prog w K mg base G 0 "demands" 2 .o RM.m_Market_demands 4 [] := ⟨_, _, _, _, [], o32, by rw [hG]; exact ⟨a32, i32, k32⟩, b32, .nil, fun _ => .nil⟩
  have o33 := okm_is_lively (P := l.prog) (w := w) (base := base) F33 T d_equilibrium d_less dm_Market_demands
  have d_is_lively : DefO l.prog w K mg base G "is_lively" 1 .d RM.m_is_lively 7 [] := ⟨_, _, _, _, [], o33, PySem.W.mg_of X G0 a33, k33, b33, .nil, fun _ => .nil⟩
  have o34 := okm_is_name (P := l.prog) (w := w) (base := base) F34 T 
  have d_is_name : DefO l.prog w K mg base G "is_name" 1 .d RM.m_is_name 1 [] := ⟨_, _, _, _, [], o34, PySem.W.mg_of X G0 a34, k34, b34, .nil, fun _ => .nil⟩
  have o35 := okmB_Market__check_products_0 (P := l.prog) (w := w) (base := base) F35 T d_is_name d_less
  have dmB_Market__check_products_0 : MethB l.prog w K mg base G 0 "_check_products" 1 .d (.i 0 .nil) RM.mB_Market__check_products_0 2 [] := ⟨_, _, _, _, [], o35, by rw [hG]; exact ⟨a35, i35, k35⟩, b35, .nil, fun _ => .nil⟩
  have o36 := okmB_Market_names (P := l.prog) (w := w) (base := base) F31 T 
  have dmB_Market_names : MethB l.prog w K mg base G 0 "names" 0 .o (.i 0 (.cons .d (.cons .dt .nil))) RM.mB_Market_names 1 [] := ⟨_, _, _, _, [], o36, by rw [hG]; exact ⟨a31, i31, k31⟩, b31, .nil, fun _ => .nil⟩
  have o37 := okmB_Market__add_rivalry (P := l.prog) (w := w) (base := base) F36 T d_less dmB_Market_names
  have dmB_Market__add_rivalry : MethB l.prog w K mg base G 0 "_add_rivalry" 3 .d (.i 0 (.cons .d (.cons .dt .nil))) RM.mB_Market__add_rivalry 2 [] := ⟨_, _, _, _, [], o37, by rw [hG]; exact ⟨a36, i36, k36⟩, b36, .nil, fun _ => .nil⟩
  have o38 := okmB_Market_cross (P := l.prog) (w := w) (base := base) F14 T 
  have dmB_Market_cross : MethB l.prog w K mg base G 0 "cross" 2 .d (.i 0 (.cons .d (.cons .dt .nil))) RM.mB_Market_cross 1 [] := ⟨_, _, _, _, [], o38, by rw [hG]; exact ⟨a14, i14, k14⟩, b14, .nil, fun _ => .nil⟩
  have o39 := okmI_Market___init__ (P := l.prog) (w := w) (base := base) F37 T d_add d_less dmB_Market__check_products_0 dmB_Market__add_rivalry dmB_Market_names dmB_Market_cross
  have k_Market : MakeO l.prog w K mg base G "Market" 0 2 (.i 0 (.cons .d (.cons .dt .nil))) RM.mI_Market___init__ 4 [] := ⟨_, _, _, _, [], o39, by rw [hG]; exact PySem.W.mg_of X G0 xa_Market, by rw [hG]; exact ⟨mk_Market, a37, i37, kc_Market⟩, b37, .nil, fun _ => .nil⟩
  have o40 := okm_law (P := l.prog) (w := w) (base := base) F38 T d__law_products d__law_rivalries d_equilibrium d__law_ratio d_judge d__law_change d__law_demands d__law_less d_is_lively k_Market
  refine o40.imp fun vs H Q E ⟨a, ns, e1, hS, hl, hb, k⟩ => ?_
  subst e1
  refine ⟨Fo.nil0, H, [.scr ns], Evl.Ex.refl H, fun _ _ z => Fo.nil0_no z, .cons (.scr hS) .nil, rfl, ?_⟩
  rw [law_ok ns hl hb]
  intro v S' H' _ h'
  cases h'.head
  exact k H'
theorem walk {l : PySem.W.OpenLaw} {q : Program} {loose : List Str} {XP : (Str → Option Value) → Heap → Prop} {YP : World → Heap → Prop} {d : DefRec} {K : Params → PySem.W.Frag} (hn : l.most = some 63) (hdf : d.params.defaults = [])
    (hY : ∀ (w : World) (h : Heap), YP w h → (K w.params).In h)
    (F : ∀ (w : World) (mg : Str → Option Value) (fa : Addr) (h : Heap), (K w.params).In h → h.Ns mainGlobals mg → mg d.name = some (.ref fa) →
      ∃ fd : FuncData, (∀ (s : Shared) (u : Value), BindsTo s fd ⟨[u], []⟩ [("_law_script", u)]) ∧ ∀ base : Heap, (K w.params).In base → base.Ns mainGlobals mg → FnOk l.prog w (K w.params) mg base (L2.CX l.prog w) 8 fa fd ["_law_script"] (spLaw (K w.params))) :
    PySem.W.WalkO q loose XP YP l.row.toRowW d [] (fun f vs => PySem.call f vs) :=
  L2.walk_ofB (n := 63) (k := 8) (x := "_law_script") (CX := fun w => L2.CX l.prog w) (sp := fun w => spLaw (K w.params)) hn (by decide) hdf ⟨rfl, by decide, by decide⟩ hY F (fun _ _ a ns hl hb _ hS => ⟨a, ns, rfl, hS, hl, fun z hz => bits_lt (hb z hz), fun _ => rfl⟩) fun _ _ _ _ _ z => by
    obtain ⟨_, _, _, _, _, _, _, _, _, _, _, _, q⟩ := z
    exact q.elim
end K41
open PySem PySem.W PyProof.Rows
set_option maxRecDepth 100000 in
set_option maxHeartbeats 0 in
theorem PySem.Challenge.cw_rivalprices_k41_prices_are_judged_holds : PySem.Challenge.rw_rivalprices_k41_prices_are_judged.Holds := by
  w_on; o_law; k_head; (case hw => w_witness2)
  k_fill
  refine K41.walk (l := PySem.Challenge.rw_rivalprices_k41_prices_are_judged) rfl rfl (fun w h Y => PySem.W.kIn_of Y) ?F
  case F =>
    intro w mg fa h KX G hmg
    refine' K41.all_mk KX G hmg ?xa_Market ?pg_Market ?hd_Market ?po_Market ?sa_Market ?mk_Market ?kc_Market ?nf_Market__crosses ?nf_Market_products ?a0 ?l0 ?c0 ?k0 ?a1 ?l1 ?c1 ?k1 ?a2 ?l2 ?c2 ?k2 ?a3 ?l3 ?c3 ?k3 ?a4 ?l4 ?c4 ?k4 ?a5 ?l5 ?c5 ?k5 ?a6 ?l6 ?c6 ?k6 ?a7 ?l7 ?c7 ?k7 ?a8 ?l8 ?c8 ?k8 ?a9 ?l9 ?c9 ?k9 ?a10 ?l10 ?c10 ?k10 ?dv10 ?dl10 ?dd10 ?a11 ?l11 ?c11 ?k11 ?a12 ?l12 ?c12 ?k12 ?a13 ?l13 ?c13 ?k13 ?a14 ?i14 ?l14 ?c14 ?k14 ?a15 ?l15 ?c15 ?k15 ?a16 ?l16 ?c16 ?k16 ?a17 ?l17 ?c17 ?k17 ?a18 ?l18 ?c18 ?k18 ?a19 ?l19 ?c19 ?k19 ?a20 ?l20 ?c20 ?k20 ?a21 ?l21 ?c21 ?k21 ?a22 ?l22 ?c22 ?k22 ?a23 ?l23 ?c23 ?k23 ?a24 ?l24 ?c24 ?k24 ?a25 ?l25 ?c25 ?k25 ?a26 ?l26 ?c26 ?k26 ?a27 ?l27 ?c27 ?k27 ?a28 ?l28 ?c28 ?k28 ?a29 ?l29 ?c29 ?k29 ?a30 ?l30 ?c30 ?k30 ?a31 ?i31 ?l31 ?c31 ?k31 ?a32 ?i32 ?l32 ?c32 ?k32 ?a33 ?l33 ?c33 ?k33 ?a34 ?l34 ?c34 ?k34 ?a35 ?i35 ?l35 ?c35 ?k35 ?a36 ?i36 ?l36 ?c36 ?k36 ?a37 ?i37 ?l37 ?c37 ?k37 ?a38 ?l38 ?c38 ?k38 ?z_int ?z_range ?z_len ?z_sorted ?z_abs ?z_isinstance ?z_bool ?z_zip ?z_list ?z_enumerate ?gc_ZERO_market ?gl_ZERO_market ?gt_ZERO_market ?gd_ZERO_market ?gc_TWO ?gl_TWO ?gt_TWO ?gd_TWO ?gc_ZERO_matrix ?gl_ZERO_matrix ?gt_ZERO_matrix ?gd_ZERO_matrix ?gc_LETTERS ?gc_MOST_PRODUCTS ?xa_InvalidRatio ?xa_Singular ?xa_InvalidMarket ?xa_DuplicateName ?xa_UnknownName ?xe_InvalidRatio ?xk_InvalidRatio ?xs_InvalidRatio ?xt_InvalidRatio ?xe_Singular ?xk_Singular ?xs_Singular ?xt_Singular ?xe_InvalidMarket ?xk_InvalidMarket ?xs_InvalidMarket ?xt_InvalidMarket ?xe_DuplicateName ?xk_DuplicateName ?xs_DuplicateName ?xt_DuplicateName ?xe_UnknownName ?xk_UnknownName ?xs_UnknownName ?xt_UnknownName
    (case xa_Market => k_is)
    (case pg_Market => k_is)
    (case hd_Market => k_is)
    (case po_Market => k_is)
    (case sa_Market => k_is)
    (case mk_Market => k_is)
    (case kc_Market => k_is)
    (case nf_Market__crosses => k_is)
    (case nf_Market_products => k_is)
    (case a0 => k_is)
    (case l0 => k_is)
    (case c0 => k_is)
    (case k0 => k_is)
    (case a1 => k_is)
    (case l1 => k_is)
    (case c1 => k_is)
    (case k1 => k_is)
    (case a2 => k_is)
    (case l2 => k_is)
    (case c2 => k_is)
    (case k2 => k_is)
    (case a3 => k_is)
    (case l3 => k_is)
    (case c3 => k_is)
    (case k3 => k_is)
    (case a4 => k_is)
    (case l4 => k_is)
    (case c4 => k_is)
    (case k4 => k_is)
    (case a5 => k_is)
    (case l5 => k_is)
    (case c5 => k_is)
    (case k5 => k_is)
    (case a6 => k_is)
    (case l6 => k_is)
    (case c6 => k_is)
    (case k6 => k_is)
    (case a7 => k_is)
    (case l7 => k_is)
    (case c7 => k_is)
    (case k7 => k_is)
    (case a8 => k_is)
    (case l8 => k_is)
    (case c8 => k_is)
    (case k8 => k_is)
    (case a9 => k_is)
    (case l9 => k_is)
    (case c9 => k_is)
    (case k9 => k_is)
    (case a10 => k_is)
    (case l10 => k_is)
    (case c10 => k_is)
    (case k10 => k_is)
    (case dv10 => rfl)
    (case dl10 => k_is)
    (case dd10 => rfl)
    (case a11 => k_is)
    (case l11 => k_is)
    (case c11 => k_is)
    (case k11 => k_is)
    (case a12 => k_is)
    (case l12 => k_is)
    (case c12 => k_is)
    (case k12 => k_is)
    (case a13 => k_is)
    (case l13 => k_is)
    (case c13 => k_is)
    (case k13 => k_is)
    (case a14 => k_is)
    (case i14 => k_is)
    (case l14 => k_is)
    (case c14 => k_is)
    (case k14 => k_is)
    (case a15 => k_is)
    (case l15 => k_is)
    (case c15 => k_is)
    (case k15 => k_is)
    (case a16 => k_is)
    (case l16 => k_is)
    (case c16 => k_is)
    (case k16 => k_is)
    (case a17 => k_is)
    (case l17 => k_is)
    (case c17 => k_is)
    (case k17 => k_is)
    (case a18 => k_is)
    (case l18 => k_is)
    (case c18 => k_is)
    (case k18 => k_is)
    (case a19 => k_is)
    (case l19 => k_is)
    (case c19 => k_is)
    (case k19 => k_is)
    (case a20 => k_is)
    (case l20 => k_is)
    (case c20 => k_is)
    (case k20 => k_is)
    (case a21 => k_is)
    (case l21 => k_is)
    (case c21 => k_is)
    (case k21 => k_is)
    (case a22 => k_is)
    (case l22 => k_is)
    (case c22 => k_is)
    (case k22 => k_is)
    (case a23 => k_is)
    (case l23 => k_is)
    (case c23 => k_is)
    (case k23 => k_is)
    (case a24 => k_is)
    (case l24 => k_is)
    (case c24 => k_is)
    (case k24 => k_is)
    (case a25 => k_is)
    (case l25 => k_is)
    (case c25 => k_is)
    (case k25 => k_is)
    (case a26 => k_is)
    (case l26 => k_is)
    (case c26 => k_is)
    (case k26 => k_is)
    (case a27 => k_is)
    (case l27 => k_is)
    (case c27 => k_is)
    (case k27 => k_is)
    (case a28 => k_is)
    (case l28 => k_is)
    (case c28 => k_is)
    (case k28 => k_is)
    (case a29 => k_is)
    (case l29 => k_is)
    (case c29 => k_is)
    (case k29 => k_is)
    (case a30 => k_is)
    (case l30 => k_is)
    (case c30 => k_is)
    (case k30 => k_is)
    (case a31 => k_is)
    (case i31 => k_is)
    (case l31 => k_is)
    (case c31 => k_is)
    (case k31 => k_is)
    (case a32 => k_is)
    (case i32 => k_is)
    (case l32 => k_is)
    (case c32 => k_is)
    (case k32 => k_is)
    (case a33 => k_is)
    (case l33 => k_is)
    (case c33 => k_is)
    (case k33 => k_is)
    (case a34 => k_is)
    (case l34 => k_is)
    (case c34 => k_is)
    (case k34 => k_is)
    (case a35 => k_is)
    (case i35 => k_is)
    (case l35 => k_is)
    (case c35 => k_is)
    (case k35 => k_is)
    (case a36 => k_is)
    (case i36 => k_is)
    (case l36 => k_is)
    (case c36 => k_is)
    (case k36 => k_is)
    (case a37 => k_is)
    (case i37 => k_is)
    (case l37 => k_is)
    (case c37 => k_is)
    (case k37 => k_is)
    (case a38 => k_is)
    (case l38 => k_is)
    (case c38 => k_is)
    (case k38 => k_is)
    (case z_int => k_is)
    (case z_range => k_is)
    (case z_len => k_is)
    (case z_sorted => k_is)
    (case z_abs => k_is)
    (case z_isinstance => k_is)
    (case z_bool => k_is)
    (case z_zip => k_is)
    (case z_list => k_is)
    (case z_enumerate => k_is)
    (case gc_ZERO_market => k_is)
    (case gl_ZERO_market => k_is)
    (case gt_ZERO_market => rfl)
    (case gd_ZERO_market => rfl)
    (case gc_TWO => k_is)
    (case gl_TWO => k_is)
    (case gt_TWO => rfl)
    (case gd_TWO => rfl)
    (case gc_ZERO_matrix => k_is)
    (case gl_ZERO_matrix => k_is)
    (case gt_ZERO_matrix => rfl)
    (case gd_ZERO_matrix => rfl)
    (case gc_LETTERS => k_is)
    (case gc_MOST_PRODUCTS => k_is)
    (case xa_InvalidRatio => k_is)
    (case xa_Singular => k_is)
    (case xa_InvalidMarket => k_is)
    (case xa_DuplicateName => k_is)
    (case xa_UnknownName => k_is)
    (case xe_InvalidRatio => k_exc)
    (case xk_InvalidRatio => k_is)
    (case xs_InvalidRatio => k_is)
    (case xt_InvalidRatio => k_is)
    (case xe_Singular => k_exc)
    (case xk_Singular => k_is)
    (case xs_Singular => k_is)
    (case xt_Singular => k_is)
    (case xe_InvalidMarket => k_exc)
    (case xk_InvalidMarket => k_is)
    (case xs_InvalidMarket => k_is)
    (case xt_InvalidMarket => k_is)
    (case xe_DuplicateName => k_exc)
    (case xk_DuplicateName => k_is)
    (case xs_DuplicateName => k_is)
    (case xt_DuplicateName => k_is)
    (case xe_UnknownName => k_exc)
    (case xk_UnknownName => k_is)
    (case xs_UnknownName => k_is)
    (case xt_UnknownName => k_is)
