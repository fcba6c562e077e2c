import PyProof.Rows.All
import Wide.All
import OpenK.AllK
import Wide.FinOn
import HandS.ForMost
import HandS.ForExc
import HandS.Evl
import HandS.Wide
import HandS.IsInst
import HandS.Style
import HandS.CallSlots
import HandS.Small
import HandS.Walk
import HandS.Defaults
import HandS.ExcIs
import HandS.TryOnly
import HandS.Dict
import HandS.TupAny
import HandS.Text
import PyProof.ReprRoads
import HandS.More
import HandS.Flow
import KE.KSortTupAny
import HandS.Conv
import HandS.TupSets
import HandS.DictTup
import HandS.EndBits
import KE.GoesMore
import HandS.TryMany
import PyProof.StrOps2
import HandS.Deep
import HandS.FStr
import HandS.ExcInit
import HandS.ExcSuper
import KE.KExcSuper
import HandS.ExcField
import HandS.HotCalls
import KE.KExcLine
import KE.GoesEnum
import HandS.TupLe
import KE.LtData
import KE.KDictZip
import HandS.DeepEq
import HandS.Comp
import HandS.DictComp
import PyProof.ZipIter
import PyProof.EnumMake
import PyProof.Draws
import HandS.Zip
import HandS.HeadHook3
import PyProof.ReprLen
import PySem.Challenge.RW_rivalprices_k15_equations_solved_or_sing
set_option Elab.async false
set_option linter.all false
set_option maxRecDepth 100000
set_option maxHeartbeats 4000000
namespace MR
open PySem L2
inductive Err where
  | ratio | singular | market | unknown | dup | merger | command | line (n : Int)
  deriving DecidableEq
inductive D where
  | non | bl (b : Bool) | int (i : Int) | str (s : Str)
  | tup (ds : List D) | lst (ds : List D)
  | dK (kvs : List (Key × D)) | dT (kvs : List (List Key × D))
  | ins (c : Nat) (fs : List (Str × D))
  | scr (ns : List Int)
  deriving Inhabited
noncomputable def Err.tag : Err → Nat
  | .ratio => 0 | .singular => 1 | .market => 2 | .unknown => 3 | .dup => 4 | .merger => 5 | .command => 6 | .line _ => 7
structure Cl where
  cA : Nat → Addr
  eA : Nat → Addr
inductive Sh where | d | l (row : Sh) | i (c : Nat) (row : Sh) | dk | dt | nil | cons (s row : Sh) | all (s : Sh)
  deriving DecidableEq
structure EI where
  a : Addr
  d : Option Addr
  er : Err
  fz : Bool
  deriving DecidableEq
inductive Mode where | x | d | o | w (sh : Sh) | s (k : Nat) (sh : Sh) | e (a : EI)
  deriving DecidableEq
noncomputable def pino (a : Addr) (oe : Obj) : HO := .ext fun h => h.get? a = some oe
noncomputable def lineOk (S : Hp) (d : Option Addr) (er : Err) : Prop := match er with
  | .line n => ∃ q, d = some q ∧ S q = some (.xd [(("line" : Str), .int n)])
  | _ => d = none
noncomputable def errOk (G : Cl) (S : Hp) (q : EI) : Prop := lineOk S q.d q.er ∧ (q.fz = true → ∃ oe, S q.a = some (pino q.a oe) ∧ Zc (.ref (G.eA q.er.tag)) q.d oe ∧ ∃ vs, oe.data = .fields vs)
theorem lineOk.mono {S S' : Hp} {d : Option Addr} {er : Err} (e : Evl.Ex S S') (h : lineOk S d er) : lineOk S' d er := by
  cases er <;> first | exact h | exact (let ⟨q, a, b⟩ := h; ⟨q, a, e _ _ b⟩)
theorem errOk.mono {G : Cl} {S S' : Hp} {q : EI} (e : Evl.Ex S S') (h : errOk G S q) : errOk G S' q := ⟨h.1.mono e, fun z => let ⟨oe, a, b⟩ := h.2 z; ⟨oe, e _ _ a, b⟩⟩
noncomputable def noTup : HO → Bool
  | .tup _ => false
  | _ => true
theorem nt_lst {vs : List V} : noTup (.lst vs) = true := rfl
structure Fo where
  hp : Hp
  pin : Nat → Addr
  nt : ∀ a o, hp a = some o → noTup o = true
instance : CoeFun Fo (fun _ => Addr → Option HO) := ⟨Fo.hp⟩
noncomputable def Fo.upd (F : Fo) (p : Addr) (o : HO) (ho : noTup o = true := by exact nt_lst) : Fo := ⟨L2.upd F.hp p o, F.pin, fun a u q => by
  by_cases e : a = p
  · subst e
    rw [L2.upd_same] at q
    cases q
    exact ho
  · rw [L2.upd_ne e] at q
    exact F.nt a u q⟩
theorem Fo.upd_same {F : Fo} {p : Addr} {o : HO} {ho : noTup o = true} : F.upd p o ho p = some o := L2.upd_same
theorem Fo.upd_ne {F : Fo} {p q : Addr} {o : HO} {ho : noTup o = true} (h : q ≠ p) : F.upd p o ho q = F q := L2.upd_ne h
noncomputable abbrev Ex (H H' : Hp) : Prop := Evl.Ex H H'
mutual
inductive Dat (K : PySem.W.Frag) (G : Cl) (S : Hp) : V → D → Prop
  | non : Dat K G S .non .non
  | bl (b : Bool) : Dat K G S (.bl b) (.bl b)
  | int (i : Int) : Dat K G S (.int i) (.int i)
  | str (x : Str) : Dat K G S (.str x) (.str x)
  | tup {a : Addr} {vs : List V} {ds : List D} : SqT K S a vs → DatL K G S vs ds → Dat K G S (.ref a) (.tup ds)
  | lst {a : Addr} {vs : List V} {ds : List D} : S a = some (.lst vs) → DatL K G S vs ds → Dat K G S (.ref a) (.lst ds)
  | scr {a : Addr} {ns : List Int} : SqL K S a (ns.map V.int) → Dat K G S (.ref a) (.scr ns)
  | dK {a : Addr} {ks : List Key} {vs : List V} {ds : List D} : S a = some (.dK (ks.zip vs)) → ks.length = vs.length → DatL K G S vs ds → Dat K G S (.ref a) (.dK (ks.zip ds))
  | dT {a : Addr} {ks : List (List Key)} {vs : List V} {ds : List D} : S a = some (.dT (ks.zip vs)) → ks.length = vs.length → DatL K G S vs ds → Dat K G S (.ref a) (.dT (ks.zip ds))
  | ins {a dx : Addr} {c : Nat} {ks : List Str} {vs : List V} {ds : List D} : S a = some (.ins (G.cA c) dx (ks.zip vs)) → ks.length = vs.length → DatL K G S vs ds → Dat K G S (.ref a) (.ins c (ks.zip ds))
inductive DatL (K : PySem.W.Frag) (G : Cl) (S : Hp) : List V → List D → Prop
  | nil : DatL K G S [] []
  | cons {v : V} {d : D} {vs : List V} {ds : List D} : Dat K G S v d → DatL K G S vs ds → DatL K G S (v :: vs) (d :: ds)
end
mutual
inductive Own (K : PySem.W.Frag) (G : Cl) (S H : Hp) : Addr → D → List Addr → Prop
  | lst {p : Addr} {vs : List V} {ds : List D} {fp : List Addr} : H p = some (.lst vs) → OwnL K G S H vs ds fp → Own K G S H p (.lst ds) (p :: fp)
  | dK {p : Addr} {ks : List Key} {vs : List V} {ds : List D} {fp : List Addr} : H p = some (.dK (ks.zip vs)) → ks.length = vs.length → OwnL K G S H vs ds fp → Own K G S H p (.dK (ks.zip ds)) (p :: fp)
  | dT {p : Addr} {ks : List (List Key)} {vs : List V} {ds : List D} {fp : List Addr} : H p = some (.dT (ks.zip vs)) → ks.length = vs.length → OwnL K G S H vs ds fp → Own K G S H p (.dT (ks.zip ds)) (p :: fp)
  | ins {p dx : Addr} {c : Nat} {ks : List Str} {vs : List V} {ds : List D} {fp : List Addr} : H p = some (.ins (G.cA c) dx (ks.zip vs)) → ks.length = vs.length → OwnL K G S H vs ds fp → Own K G S H p (.ins c (ks.zip ds)) (p :: fp)
inductive OwnL (K : PySem.W.Frag) (G : Cl) (S H : Hp) : List V → List D → List Addr → Prop
  | nil : OwnL K G S H [] [] []
  | dat {v : V} {d : D} {vs : List V} {ds : List D} {fp : List Addr} : Dat K G S v d → OwnL K G S H vs ds fp → OwnL K G S H (v :: vs) (d :: ds) fp
  | own {p : Addr} {d : D} {vs : List V} {ds : List D} {f1 f2 : List Addr} : Own K G S H p d f1 → OwnL K G S H vs ds f2 → OwnL K G S H (.ref p :: vs) (d :: ds) (f1 ++ f2)
end
inductive Ow (K : PySem.W.Frag) (G : Cl) (S H : Hp) : Bool → Sh → List V → List D → List Addr → Prop
  | dat {v : V} {d : D} : Dat K G S v d → Ow K G S H false .d [v] [d] []
  | lst {p : Addr} {row : Sh} {vs : List V} {ds : List D} {fp : List Addr} : H p = some (.lst vs) → Ow K G S H true row vs ds fp → Ow K G S H false (.l row) [.ref p] [.lst ds] (p :: fp)
  | ins {p dx : Addr} {c : Nat} {row : Sh} {ks : List Str} {vs : List V} {ds : List D} {fp : List Addr} : H p = some (.ins (G.cA c) dx (ks.zip vs)) → ks.length = vs.length → Ow K G S H true row vs ds fp → Ow K G S H false (.i c row) [.ref p] [.ins c (ks.zip ds)] (p :: fp)
  | dk {p : Addr} {ks : List Key} {vs : List V} {ds : List D} : H p = some (.dK (ks.zip vs)) → ks.length = vs.length → DatL K G S vs ds → Ow K G S H false .dk [.ref p] [.dK (ks.zip ds)] [p]
  | dt {p : Addr} {ks : List (List Key)} {vs : List V} {ds : List D} : H p = some (.dT (ks.zip vs)) → ks.length = vs.length → DatL K G S vs ds → Ow K G S H false .dt [.ref p] [.dT (ks.zip ds)] [p]
  | nil : Ow K G S H true .nil [] [] []
  | cons {s row : Sh} {v : V} {d : D} {vs : List V} {ds : List D} {f1 f2 : List Addr} : Ow K G S H false s [v] [d] f1 → Ow K G S H true row vs ds f2 → Ow K G S H true (.cons s row) (v :: vs) (d :: ds) (f1 ++ f2)
  | all0 {s : Sh} : Ow K G S H true (.all s) [] [] []
  | all {s : Sh} {v : V} {d : D} {vs : List V} {ds : List D} {f1 f2 : List Addr} : Ow K G S H false s [v] [d] f1 → Ow K G S H true (.all s) vs ds f2 → Ow K G S H true (.all s) (v :: vs) (d :: ds) (f1 ++ f2)
section
variable {K : PySem.W.Frag} {G : Cl} {F : Fo} {S S' H H' : Hp}
mutual
theorem Dat.mono (e : Ex S S') : ∀ {v : V} {d : D}, Dat K G S v d → Dat K G S' v d
  | _, _, .non => .non
  | _, _, .bl b => .bl b
  | _, _, .int i => .int i
  | _, _, .str x => .str x
  | _, _, .tup h1 h2 => .tup (Evl.ex_t e h1) (DatL.mono e h2)
  | _, _, .lst h1 h2 => .lst (e _ _ h1) (DatL.mono e h2)
  | _, _, .scr h1 => .scr (Evl.ex_l e h1)
  | _, _, .dK h1 h2 h3 => .dK (e _ _ h1) h2 (DatL.mono e h3)
  | _, _, .dT h1 h2 h3 => .dT (e _ _ h1) h2 (DatL.mono e h3)
  | _, _, .ins h1 h2 h3 => .ins (e _ _ h1) h2 (DatL.mono e h3)
theorem DatL.mono (e : Ex S S') : ∀ {vs : List V} {ds : List D}, DatL K G S vs ds → DatL K G S' vs ds
  | _, _, .nil => .nil
  | _, _, .cons h t => .cons (Dat.mono e h) (DatL.mono e t)
end
mutual
theorem Own.mono (e : Ex S S') : ∀ {p : Addr} {d : D} {fp : List Addr}, Own K G S H p d fp → (∀ a ∈ fp, H' a = H a) → Own K G S' H' p d fp
  | _, _, _, .lst h1 h2, k => .lst ((k _ List.mem_cons_self).trans h1) (OwnL.mono e h2 fun a ha => k a (List.mem_cons_of_mem _ ha))
  | _, _, _, .dK h1 h2 h3, k => .dK ((k _ List.mem_cons_self).trans h1) h2 (OwnL.mono e h3 fun a ha => k a (List.mem_cons_of_mem _ ha))
  | _, _, _, .dT h1 h2 h3, k => .dT ((k _ List.mem_cons_self).trans h1) h2 (OwnL.mono e h3 fun a ha => k a (List.mem_cons_of_mem _ ha))
  | _, _, _, .ins h1 h2 h3, k => .ins ((k _ List.mem_cons_self).trans h1) h2 (OwnL.mono e h3 fun a ha => k a (List.mem_cons_of_mem _ ha))
theorem OwnL.mono (e : Ex S S') : ∀ {vs : List V} {ds : List D} {fp : List Addr}, OwnL K G S H vs ds fp → (∀ a ∈ fp, H' a = H a) → OwnL K G S' H' vs ds fp
  | _, _, _, .nil, _ => .nil
  | _, _, _, .dat h t, k => .dat (Dat.mono e h) (OwnL.mono e t k)
  | _, _, _, .own h t, k => .own (Own.mono e h fun a ha => k a (List.mem_append_left _ ha)) (OwnL.mono e t fun a ha => k a (List.mem_append_right _ ha))
end
mutual
theorem Own.frz (e : Ex S S') : ∀ {p : Addr} {d : D} {fp : List Addr}, Own K G S H p d fp → (∀ a ∈ fp, S' a = H a) → Dat K G S' (.ref p) d
  | _, _, _, .lst h1 h2, k => .lst ((k _ List.mem_cons_self).trans h1) (OwnL.frz e h2 fun a ha => k a (List.mem_cons_of_mem _ ha))
  | _, _, _, .dK h1 h2 h3, k => .dK ((k _ List.mem_cons_self).trans h1) h2 (OwnL.frz e h3 fun a ha => k a (List.mem_cons_of_mem _ ha))
  | _, _, _, .dT h1 h2 h3, k => .dT ((k _ List.mem_cons_self).trans h1) h2 (OwnL.frz e h3 fun a ha => k a (List.mem_cons_of_mem _ ha))
  | _, _, _, .ins h1 h2 h3, k => .ins ((k _ List.mem_cons_self).trans h1) h2 (OwnL.frz e h3 fun a ha => k a (List.mem_cons_of_mem _ ha))
theorem OwnL.frz (e : Ex S S') : ∀ {vs : List V} {ds : List D} {fp : List Addr}, OwnL K G S H vs ds fp → (∀ a ∈ fp, S' a = H a) → DatL K G S' vs ds
  | _, _, _, .nil, _ => .nil
  | _, _, _, .dat h t, k => .cons (Dat.mono e h) (OwnL.frz e t k)
  | _, _, _, .own h t, k => .cons (Own.frz e h fun a ha => k a (List.mem_append_left _ ha)) (OwnL.frz e t fun a ha => k a (List.mem_append_right _ ha))
end
mutual
theorem Own.there : ∀ {p : Addr} {d : D} {fp : List Addr}, Own K G S H p d fp → ∀ a ∈ fp, ∃ o, H a = some o ∧ noTup o = true
  | _, _, _, .lst h1 h2, a, ha => by
    rcases List.mem_cons.mp ha with rfl | ha
    · exact ⟨_, h1, rfl⟩
    · exact OwnL.there h2 a ha
  | _, _, _, .dK h1 _ h2, a, ha => by
    rcases List.mem_cons.mp ha with rfl | ha
    · exact ⟨_, h1, rfl⟩
    · exact OwnL.there h2 a ha
  | _, _, _, .dT h1 _ h2, a, ha => by
    rcases List.mem_cons.mp ha with rfl | ha
    · exact ⟨_, h1, rfl⟩
    · exact OwnL.there h2 a ha
  | _, _, _, .ins h1 _ h2, a, ha => by
    rcases List.mem_cons.mp ha with rfl | ha
    · exact ⟨_, h1, rfl⟩
    · exact OwnL.there h2 a ha
theorem OwnL.there : ∀ {vs : List V} {ds : List D} {fp : List Addr}, OwnL K G S H vs ds fp → ∀ a ∈ fp, ∃ o, H a = some o ∧ noTup o = true
  | _, _, _, .nil, a, ha => by cases ha
  | _, _, _, .dat _ t, a, ha => OwnL.there t a ha
  | _, _, _, .own h t, a, ha => by
    rcases List.mem_append.mp ha with ha | ha
    · exact Own.there h a ha
    · exact OwnL.there t a ha
end
theorem DatL.ownL : ∀ {vs : List V} {ds : List D}, DatL K G S vs ds → OwnL K G S H vs ds []
  | _, _, .nil => .nil
  | _, _, .cons h t => .dat h (DatL.ownL t)
theorem DatL.length : ∀ {vs : List V} {ds : List D}, DatL K G S vs ds → vs.length = ds.length
  | _, _, .nil => rfl
  | _, _, .cons _ t => by simp [DatL.length t]
theorem OwnL.length : ∀ {vs : List V} {ds : List D} {fp : List Addr}, OwnL K G S H vs ds fp → vs.length = ds.length
  | _, _, _, .nil => rfl
  | _, _, _, .dat _ t => by simp [OwnL.length t]
  | _, _, _, .own _ t => by simp [OwnL.length t]
theorem DatL.append : ∀ {vs ws : List V} {ds es : List D}, DatL K G S vs ds → DatL K G S ws es → DatL K G S (vs ++ ws) (ds ++ es)
  | _, _, _, _, .nil, h => h
  | _, _, _, _, .cons h t, q => .cons h (DatL.append t q)
theorem Ow.mono (e : Ex S S') {q : Bool} {sh : Sh} {vs : List V} {ds : List D} {fp : List Addr} (h : Ow K G S H q sh vs ds fp) (k : ∀ a ∈ fp, H' a = H a) : Ow K G S' H' q sh vs ds fp := by
  induction h with
  | dat h => exact .dat (h.mono e)
  | lst h1 _ ih => exact .lst ((k _ List.mem_cons_self).trans h1) (ih fun a ha => k a (List.mem_cons_of_mem _ ha))
  | ins h1 h2 _ ih => exact .ins ((k _ List.mem_cons_self).trans h1) h2 (ih fun a ha => k a (List.mem_cons_of_mem _ ha))
  | dk h1 h2 h3 => exact .dk ((k _ List.mem_cons_self).trans h1) h2 (h3.mono e)
  | dt h1 h2 h3 => exact .dt ((k _ List.mem_cons_self).trans h1) h2 (h3.mono e)
  | nil => exact .nil
  | cons _ _ i1 i2 => exact .cons (i1 fun a ha => k a (List.mem_append_left _ ha)) (i2 fun a ha => k a (List.mem_append_right _ ha))
  | all0 => exact .all0
  | all _ _ i1 i2 => exact .all (i1 fun a ha => k a (List.mem_append_left _ ha)) (i2 fun a ha => k a (List.mem_append_right _ ha))
theorem Ow.frz (e : Ex S S') {q : Bool} {sh : Sh} {vs : List V} {ds : List D} {fp : List Addr} (h : Ow K G S H q sh vs ds fp) (k : ∀ a ∈ fp, S' a = H a) : DatL K G S' vs ds := by
  induction h with
  | dat h => exact .cons (h.mono e) .nil
  | lst h1 _ ih => exact .cons (.lst ((k _ List.mem_cons_self).trans h1) (ih fun a ha => k a (List.mem_cons_of_mem _ ha))) .nil
  | ins h1 h2 _ ih => exact .cons (.ins ((k _ List.mem_cons_self).trans h1) h2 (ih fun a ha => k a (List.mem_cons_of_mem _ ha))) .nil
  | dk h1 h2 h3 => exact .cons (.dK ((k _ List.mem_cons_self).trans h1) h2 (h3.mono e)) .nil
  | dt h1 h2 h3 => exact .cons (.dT ((k _ List.mem_cons_self).trans h1) h2 (h3.mono e)) .nil
  | nil => exact .nil
  | cons _ _ i1 i2 => exact (i1 fun a ha => k a (List.mem_append_left _ ha)).append (i2 fun a ha => k a (List.mem_append_right _ ha))
  | all0 => exact .nil
  | all _ _ i1 i2 => exact (i1 fun a ha => k a (List.mem_append_left _ ha)).append (i2 fun a ha => k a (List.mem_append_right _ ha))
theorem Ow.there {q : Bool} {sh : Sh} {vs : List V} {ds : List D} {fp : List Addr} (h : Ow K G S H q sh vs ds fp) : ∀ a ∈ fp, ∃ o, H a = some o ∧ noTup o = true := by
  induction h with
  | dat h => intro a ha; cases ha
  | lst h1 _ ih =>
    intro a ha
    rcases List.mem_cons.mp ha with rfl | ha
    · exact ⟨_, h1, rfl⟩
    · exact ih a ha
  | ins h1 _ _ ih =>
    intro a ha
    rcases List.mem_cons.mp ha with rfl | ha
    · exact ⟨_, h1, rfl⟩
    · exact ih a ha
  | dk h1 _ _ => intro a ha; rw [List.mem_singleton.mp ha]; exact ⟨_, h1, rfl⟩
  | dt h1 _ _ => intro a ha; rw [List.mem_singleton.mp ha]; exact ⟨_, h1, rfl⟩
  | nil => intro a ha; cases ha
  | cons _ _ i1 i2 =>
    intro a ha
    rcases List.mem_append.mp ha with ha | ha
    · exact i1 a ha
    · exact i2 a ha
  | all0 => intro a ha; cases ha
  | all _ _ i1 i2 =>
    intro a ha
    rcases List.mem_append.mp ha with ha | ha
    · exact i1 a ha
    · exact i2 a ha
theorem Ow.length {q : Bool} {sh : Sh} {vs : List V} {ds : List D} {fp : List Addr} (h : Ow K G S H q sh vs ds fp) : vs.length = ds.length := by
  induction h with
  | cons _ _ _ i2 => simp [i2]
  | all _ _ _ i2 => simp [i2]
  | _ => rfl
theorem DatL.get : ∀ {vs : List V} {ds : List D} {i : Nat} {d : D}, DatL K G S vs ds → ds[i]? = some d → ∃ v, vs[i]? = some v ∧ Dat K G S v d
  | _, _, i, _, .nil, e => by simp at e
  | _, _, 0, _, .cons h _, e => by
    simp only [List.getElem?_cons_zero, Option.some.injEq] at e
    subst e
    exact ⟨_, rfl, h⟩
  | _, _, i + 1, _, .cons _ t, e => by
    rw [List.getElem?_cons_succ] at e
    obtain ⟨v, h1, h2⟩ := DatL.get t e
    exact ⟨v, by rw [List.getElem?_cons_succ]; exact h1, h2⟩
theorem DatL.getV : ∀ {vs : List V} {ds : List D} {i : Nat} {v : V}, DatL K G S vs ds → vs[i]? = some v → ∃ d, ds[i]? = some d ∧ Dat K G S v d
  | _, _, i, _, .nil, e => by simp at e
  | _, _, 0, _, .cons h _, e => by
    simp only [List.getElem?_cons_zero, Option.some.injEq] at e
    subst e
    exact ⟨_, rfl, h⟩
  | _, _, i + 1, _, .cons _ t, e => by
    rw [List.getElem?_cons_succ] at e
    obtain ⟨v, h1, h2⟩ := DatL.getV t e
    exact ⟨v, by rw [List.getElem?_cons_succ]; exact h1, h2⟩
theorem DatL.drop : ∀ {vs : List V} {ds : List D} (n : Nat), DatL K G S vs ds → DatL K G S (vs.drop n) (ds.drop n)
  | _, _, 0, h => h
  | _, _, _ + 1, .nil => .nil
  | _, _, n + 1, .cons _ t => DatL.drop n t
theorem DatL.take : ∀ {vs : List V} {ds : List D} (n : Nat), DatL K G S vs ds → DatL K G S (vs.take n) (ds.take n)
  | _, _, 0, _ => .nil
  | _, _, _ + 1, .nil => .nil
  | _, _, n + 1, .cons h t => .cons h (DatL.take n t)
theorem DatL.set {v : V} {d : D} (h : Dat K G S v d) : ∀ {vs : List V} {ds : List D} (n : Nat), DatL K G S vs ds → DatL K G S (vs.set n v) (ds.set n d)
  | _, _, _, .nil => .nil
  | _, _, 0, .cons _ t => .cons h t
  | _, _, n + 1, .cons q t => .cons q (DatL.set h n t)
theorem OwnL.snoc {v : V} {d : D} (h : Dat K G S v d) : ∀ {vs : List V} {ds : List D} {fp : List Addr}, OwnL K G S H vs ds fp → OwnL K G S H (vs ++ [v]) (ds ++ [d]) fp
  | _, _, _, .nil => .dat h .nil
  | _, _, _, .dat q t => .dat q (OwnL.snoc h t)
  | _, _, _, .own q t => .own q (OwnL.snoc h t)
noncomputable def SlotOk (K : PySem.W.Frag) (G : Cl) (pin : Nat → Addr) (S H : Hp) : Mode → Option (Option V) → D → List Addr → Prop
  | .x, _, _, fp => fp = []
  | .d, sv, d, fp => fp = [] ∧ ∃ v, sv = some (some v) ∧ Dat K G S v d
  | .o, sv, d, fp => ∃ p, sv = some (some (.ref p)) ∧ Own K G S H p d fp ∧ fp = [p]
  | .w sh, sv, d, fp => ∃ p, sv = some (some (.ref p)) ∧ Ow K G S H false sh [.ref p] [d] fp
  | .s k sh, sv, d, fp => sv = some (some (.ref (pin k))) ∧ Ow K G S H false sh [.ref (pin k)] [d] fp
  | .e q, sv, _, fp => fp = [] ∧ sv = some (some (.ref q.a)) ∧ errOk G S q
structure Foot (F : Fo) (S : Hp) (fp : Nat → List Addr) : Prop where
  free : ∀ i a, a ∈ fp i → S a = none ∧ F a = none
  apart : ∀ i j a, a ∈ fp i → a ∈ fp j → i = j
  nodup : ∀ i, (fp i).Nodup
structure EnvOk (K : PySem.W.Frag) (G : Cl) (F : Fo) (S H : Hp) (μ : List Mode) (σ : L2.St) (ρ : List D) : Prop where
  sh : Ex S H
  fk : ∀ a o, F a = some o → H a = some o ∧ S a = none
  ls : σ.length = μ.length
  lr : ρ.length = μ.length
  sl : ∃ fp : Nat → List Addr, Foot F S fp ∧ (∀ i, μ.length ≤ i → fp i = []) ∧ ∀ i m, μ[i]? = some m → SlotOk K G F.pin S H m (σ[i]?) (ρ.getD i .non) (fp i)
theorem SlotOk.mono {pin : Nat → Addr} {m : Mode} {sv : Option (Option V)} {d : D} {fp : List Addr} (e : Ex S S') (h : SlotOk K G pin S H m sv d fp) (k : ∀ a ∈ fp, H' a = H a) : SlotOk K G pin S' H' m sv d fp := by
  cases m with
  | x => exact h
  | d => exact ⟨h.1, let ⟨v, a, b⟩ := h.2; ⟨v, a, b.mono e⟩⟩
  | o => exact let ⟨p, a, b, c⟩ := h; ⟨p, a, b.mono e k, c⟩
  | w _ => exact let ⟨p, a, b⟩ := h; ⟨p, a, b.mono e k⟩
  | s _ _ => exact ⟨h.1, h.2.mono e k⟩
  | e _ => exact ⟨h.1, h.2.1, h.2.2.mono e⟩
theorem SlotOk.there {pin : Nat → Addr} {m : Mode} {sv : Option (Option V)} {d : D} {fp : List Addr} (h : SlotOk K G pin S H m sv d fp) : ∀ a ∈ fp, ∃ o, H a = some o ∧ noTup o = true := by
  cases m with
  | x => intro a ha; rw [show fp = [] from h] at ha; cases ha
  | d => intro a ha; rw [h.1] at ha; cases ha
  | o => exact let ⟨p, a, b, _⟩ := h; b.there
  | w _ => exact let ⟨p, a, b⟩ := h; b.there
  | s _ _ => exact h.2.there
  | e _ => intro a ha; rw [h.1] at ha; cases ha
noncomputable def pinless : Mode → Bool
  | .s _ _ => false
  | _ => true
theorem SlotOk.repin {pin pin' : Nat → Addr} {m : Mode} {sv : Option (Option V)} {d : D} {fp : List Addr} (h : SlotOk K G pin S H m sv d fp) (e : pinless m = true) : SlotOk K G pin' S H m sv d fp := by
  cases m with
  | s _ _ => cases e
  | _ => exact h
variable {μ : List Mode} {σ : L2.St} {ρ : List D} {r : Mode} {v : V} {d : D}
theorem EnvOk.grow (h : EnvOk K G F S H μ σ ρ) (e1 : Ex S S') (e2 : Ex S' H') (e3 : ∀ a o, H a = some o → noTup o = true → H' a = some o) (k : ∀ a o, H a = some o → noTup o = true → S a = none → S' a = none) : EnvOk K G F S' H' μ σ ρ := by
  obtain ⟨sh, fk, ls, lr, fp, ⟨f1, f2, f3⟩, f4, sl⟩ := h
  have th : ∀ i a, a ∈ fp i → ∃ o, H a = some o ∧ noTup o = true := fun i a ha => by
    cases q : μ[i]? with
    | none =>
      rw [f4 i (List.getElem?_eq_none_iff.mp q)] at ha
      cases ha
    | some m => exact (sl i m q).there a ha
  refine ⟨e2, fun a o q => ?_, ls, lr, fp, ⟨fun i a ha => ?_, f2, f3⟩, f4, fun i m q => (sl i m q).mono e1 fun a ha => ?_⟩
  · obtain ⟨q1, q2⟩ := fk a o q
    exact ⟨e3 _ _ q1 (F.nt a o q), k a o q1 (F.nt a o q) q2⟩
  · obtain ⟨o, ho, nt0⟩ := th i a ha
    obtain ⟨q1, q2⟩ := f1 i a ha
    exact ⟨k a o ho nt0 q1, q2⟩
  · obtain ⟨o, ho, nt0⟩ := th i a ha
    rw [ho]
    exact e3 _ _ ho nt0
theorem EnvOk.fx (h : EnvOk K G F S H μ σ ρ) : Ex F.hp H := fun a o q => (h.fk a o q).1
theorem EnvOk.tail {s : Option V} (h : EnvOk K G F S H (r :: μ) (s :: σ) (d :: ρ)) : EnvOk K G F S H μ σ ρ := by
  obtain ⟨sh, fk, ls, lr, fp, ⟨f1, f2, f3⟩, f4, sl⟩ := h
  refine ⟨sh, fk, by simpa using ls, by simpa using lr, fun i => fp (i + 1), ⟨fun i a ha => f1 _ a ha, fun i j a ha hb => by have := f2 _ _ a ha hb; omega, fun i => f3 _⟩, fun i hi => f4 _ (by simp; omega), fun i m q => ?_⟩
  have := sl (i + 1) m (by simpa using q)
  simpa using this
theorem EnvOk.head (h : EnvOk K G F S H (.d :: μ) (some v :: σ) (d :: ρ)) : Dat K G S v d := by
  obtain ⟨sh, fk, ls, lr, fp, _, f4, sl⟩ := h
  obtain ⟨_, w, e, q⟩ := sl 0 .d rfl
  simp only [List.getElem?_cons_zero, Option.some.injEq] at e
  subst e
  exact q
theorem EnvOk.push (h : EnvOk K G F S H μ σ ρ) (q : Dat K G S v d) : EnvOk K G F S H (.d :: μ) (some v :: σ) (d :: ρ) := by
  obtain ⟨sh, fk, ls, lr, fp, ⟨f1, f2, f3⟩, f4, sl⟩ := h
  refine ⟨sh, fk, by simpa using ls, by simpa using lr, fun i => match i with | 0 => [] | i + 1 => fp i, ⟨?_, ?_, ?_⟩, ?_, ?_⟩
  · intro i a ha
    cases i with
    | zero => cases ha
    | succ i => exact f1 i a ha
  · intro i j a ha hb
    cases i with
    | zero => cases ha
    | succ i =>
      cases j with
      | zero => cases hb
      | succ j => exact congrArg (· + 1) (f2 i j a ha hb)
  · intro i
    cases i with
    | zero => exact List.nodup_nil
    | succ i => exact f3 i
  · intro i hi
    cases i with
    | zero => simp at hi
    | succ i => exact f4 i (by simpa using hi)
  · intro i m e
    cases i with
    | zero =>
      simp only [List.getElem?_cons_zero, Option.some.injEq] at e
      subst e
      exact ⟨rfl, v, rfl, q⟩
    | succ i =>
      have := sl i m (by simpa using e)
      simpa using this
theorem EnvOk.fps (h : EnvOk K G F S H μ σ ρ) : ∃ fp : Nat → List Addr, Foot F S fp ∧ (∀ i, μ.length ≤ i → fp i = []) ∧ (∀ i m, μ[i]? = some m → SlotOk K G F.pin S H m (σ[i]?) (ρ.getD i .non) (fp i)) ∧ ∀ i a, a ∈ fp i → ∃ o, H a = some o ∧ noTup o = true := by
  obtain ⟨fp, f, f4, sl⟩ := h.sl
  refine ⟨fp, f, f4, sl, fun i a ha => ?_⟩
  cases q : μ[i]? with
  | none =>
    rw [f4 i (List.getElem?_eq_none_iff.mp q)] at ha
    cases ha
  | some m => exact (sl i m q).there a ha
theorem ex_none {H H' : Hp} {p : Addr} (e : Ex H H') (h : H' p = none) : H p = none := Evl.fresh_back e h
theorem EnvOk.freshF (h : EnvOk K G F S H μ σ ρ) {p : Addr} (hp : H p = none) : F p = none := by
  cases e : F p with
  | none => rfl
  | some u => rw [(h.fk _ _ e).1] at hp; cases hp
theorem EnvOk.pushO {p : Addr} {o : HO} (h : EnvOk K G F S H μ σ ρ) (hp : H p = none) (q : Own K G S (upd H p o) p d [p]) : EnvOk K G F S (upd H p o) (.o :: μ) (some (.ref p) :: σ) (d :: ρ) := by
  have hS : S p = none := ex_none h.sh hp
  have hF : F p = none := h.freshF hp
  obtain ⟨fp, ⟨f1, f2, f3⟩, f4, sl, th⟩ := h.fps
  have np : ∀ i, p ∉ fp i := fun i hi => by
    obtain ⟨o', e, nt0⟩ := th i p hi
    rw [hp] at e
    cases e
  have e2 : Ex H (upd H p o) := Evl.Ex.new hp
  refine ⟨h.sh.trans e2, fun a u q => ⟨e2 _ _ (h.fk a u q).1, (h.fk a u q).2⟩, by simp [h.ls], by simp [h.lr], fun i => match i with | 0 => [p] | i + 1 => fp i, ⟨?_, ?_, ?_⟩, ?_, ?_⟩
  · intro i a ha
    cases i with
    | zero =>
      rw [List.mem_singleton.mp ha]
      exact ⟨hS, hF⟩
    | succ i => exact f1 i a ha
  · intro i j a ha hb
    cases i with
    | zero =>
      cases j with
      | zero => rfl
      | succ j =>
        rw [List.mem_singleton.mp ha] at hb
        exact absurd hb (np j)
    | succ i =>
      cases j with
      | zero =>
        rw [List.mem_singleton.mp hb] at ha
        exact absurd ha (np i)
      | succ j => exact congrArg (· + 1) (f2 i j a ha hb)
  · intro i
    cases i with
    | zero => exact List.nodup_cons.mpr ⟨by simp, List.nodup_nil⟩
    | succ i => exact f3 i
  · intro i hi
    cases i with
    | zero => simp at hi
    | succ i => exact f4 i (by simpa using hi)
  · intro i m e
    cases i with
    | zero =>
      simp only [List.getElem?_cons_zero, Option.some.injEq] at e
      subst e
      exact ⟨p, rfl, q, rfl⟩
    | succ i =>
      have z := (sl i m (by simpa using e)).mono (S' := S) (H' := upd H p o) (Evl.Ex.refl S) fun a ha => upd_ne fun w => np i (w ▸ ha)
      simpa using z
theorem EnvOk.store {s : Option V} {i : Nat} (h : EnvOk K G F S H (r :: μ) (s :: σ) (d :: ρ)) (hi : i < μ.length) : EnvOk K G F S H (μ.set i r) (σ.set i s) (ρ.set i d) := by
  obtain ⟨sh, fk, ls, lr, fp, ⟨f1, f2, f3⟩, f4, sl⟩ := h
  simp only [List.length_cons, Nat.add_right_cancel_iff] at ls lr
  refine ⟨sh, fk, by simp [ls], by simp [lr], fun j => if j = i then fp 0 else fp (j + 1), ⟨?_, ?_, ?_⟩, ?_, ?_⟩
  · intro j a ha
    split at ha <;> exact f1 _ a ha
  · intro j k a ha hb
    by_cases h1 : j = i
    · by_cases h2 : k = i
      · omega
      · simp only [h1, if_true, h2, if_false] at ha hb
        have := f2 _ _ a ha hb
        omega
    · by_cases h2 : k = i
      · simp only [h1, if_false, h2, if_true] at ha hb
        have := f2 _ _ a ha hb
        omega
      · simp only [h1, if_false, h2, if_false] at ha hb
        have := f2 _ _ a ha hb
        omega
  · intro j
    show (if j = i then fp 0 else fp (j + 1)).Nodup
    split <;> exact f3 _
  · intro j hj
    rw [List.length_set] at hj
    show (if j = i then fp 0 else fp (j + 1)) = []
    rw [if_neg (by omega)]
    exact f4 _ (by simp; omega)
  · intro j m e
    by_cases h1 : j = i
    · subst h1
      rw [List.getElem?_set_self hi] at e
      cases e
      simp only [if_true]
      have z := sl 0 r rfl
      simp only [List.getElem?_cons_zero, List.getD_cons_zero] at z
      rw [List.getElem?_set_self (by omega)]
      have : (ρ.set j d).getD j .non = d := by simp [List.getD, List.getElem?_set_self (show j < ρ.length by omega)]
      rw [this]
      exact z
    · rw [List.getElem?_set_ne (Ne.symm h1)] at e
      show SlotOk K G F.pin S H m _ _ (if j = i then fp 0 else fp (j + 1))
      rw [if_neg h1, List.getElem?_set_ne (Ne.symm h1)]
      have : (ρ.set i d).getD j .non = ρ.getD j .non := by simp [List.getD, List.getElem?_set_ne (Ne.symm h1)]
      rw [this]
      have z := sl (j + 1) m (by simpa using e)
      simpa using z
noncomputable def ModeLe : Mode → Mode → Bool
  | .x, _ => true
  | .d, .d => true
  | .o, .o => true
  | .w a, .w b => decide (a = b)
  | .s j a, .s k b => decide (j = k) && decide (a = b)
  | .e a, .e b => decide (a = b)
  | _, _ => false
noncomputable def ModesLe : List Mode → List Mode → Bool
  | [], [] => true
  | a :: as, b :: bs => ModeLe a b && ModesLe as bs
  | _, _ => false
theorem modesLe_len : ∀ {μ ν : List Mode}, ModesLe μ ν = true → μ.length = ν.length
  | [], [], _ => rfl
  | _ :: _, _ :: _, h => by
    simp only [ModesLe, Bool.and_eq_true] at h
    simp [modesLe_len h.2]
theorem modesLe_get : ∀ {μ ν : List Mode} {i : Nat} {m : Mode}, ModesLe μ ν = true → μ[i]? = some m → ∃ n, ν[i]? = some n ∧ ModeLe m n = true
  | [], [], _, _, _, e => by simp at e
  | a :: as, b :: bs, 0, m, h, e => by
    simp only [ModesLe, Bool.and_eq_true] at h
    simp only [List.getElem?_cons_zero, Option.some.injEq] at e
    subst e
    exact ⟨b, rfl, h.1⟩
  | a :: as, b :: bs, i + 1, m, h, e => by
    simp only [ModesLe, Bool.and_eq_true] at h
    rw [List.getElem?_cons_succ] at e ⊢
    exact modesLe_get h.2 e
noncomputable def keep : List Mode → List D → List D
  | .x :: ms, _ :: ds => .non :: keep ms ds
  | _ :: ms, d :: ds => d :: keep ms ds
  | _, _ => []
theorem keep_len : ∀ {μ : List Mode} {ρ : List D}, ρ.length = μ.length → (keep μ ρ).length = μ.length
  | [], [], _ => rfl
  | m :: ms, d :: ds, h => by
    have := keep_len (μ := ms) (ρ := ds) (by simpa using h)
    cases m <;> simp [keep, this]
  | [], _ :: _, h => by simp at h
  | _ :: _, [], h => by simp at h
theorem keep_get : ∀ {μ : List Mode} {ρ : List D} {i : Nat} {m : Mode}, ρ.length = μ.length → μ[i]? = some m → m ≠ .x → (keep μ ρ).getD i .non = ρ.getD i .non
  | m :: ms, d :: ds, 0, m', h, e, n => by
    simp only [List.getElem?_cons_zero, Option.some.injEq] at e
    subst e
    cases m <;> simp_all [keep]
  | m :: ms, d :: ds, i + 1, m', h, e, n => by
    have := keep_get (μ := ms) (ρ := ds) (i := i) (m := m') (by simpa using h) (by simpa using e) n
    cases m <;> simpa [keep] using this
  | [], _, _, _, _, e, _ => by simp at e
  | _ :: _, [], _, _, h, _, _ => by simp at h
theorem EnvOk.weak {ν : List Mode} (h : EnvOk K G F S H ν σ ρ) (w : ModesLe μ ν = true) : EnvOk K G F S H μ σ (keep μ ρ) := by
  obtain ⟨sh, fk, ls, lr, fp, ⟨f1, f2, f3⟩, f4, sl⟩ := h
  have hl := modesLe_len w
  refine ⟨sh, fk, ls.trans hl.symm, keep_len (lr.trans hl.symm), fun i => if μ[i]? = some .x then [] else fp i, ⟨?_, ?_, ?_⟩, ?_, ?_⟩
  · intro i a ha
    split at ha
    · cases ha
    · exact f1 i a ha
  · intro i j a ha hb
    split at ha
    · cases ha
    · split at hb
      · cases hb
      · exact f2 i j a ha hb
  · intro i
    show (if μ[i]? = some .x then [] else fp i).Nodup
    split
    · exact List.nodup_nil
    · exact f3 i
  · intro i hi
    show (if μ[i]? = some .x then [] else fp i) = []
    split
    · rfl
    · exact f4 i (by omega)
  · intro i m e
    obtain ⟨n, en, le⟩ := modesLe_get w e
    have z := sl i n en
    cases m with
    | x =>
      show (if μ[i]? = some .x then [] else fp i) = []
      rw [if_pos e]
    | d =>
      have : n = .d := by cases n <;> simp_all [ModeLe]
      subst this
      rw [keep_get (lr.trans hl.symm) e (by simp)]
      show SlotOk K G F.pin S H _ _ _ (if μ[i]? = some .x then [] else fp i)
      rw [if_neg (by rw [e]; simp)]
      exact z
    | w sh =>
      have : n = .w sh := by cases n <;> simp_all [ModeLe]
      subst this
      rw [keep_get (lr.trans hl.symm) e (by simp)]
      show SlotOk K G F.pin S H _ _ _ (if μ[i]? = some .x then [] else fp i)
      rw [if_neg (by rw [e]; simp)]
      exact z
    | s kk sh =>
      have : n = .s kk sh := by cases n <;> simp_all [ModeLe]
      subst this
      rw [keep_get (lr.trans hl.symm) e (by simp)]
      show SlotOk K G F.pin S H _ _ _ (if μ[i]? = some .x then [] else fp i)
      rw [if_neg (by rw [e]; simp)]
      exact z
    | e a =>
      have : n = .e a := by cases n <;> simp_all [ModeLe]
      subst this
      rw [keep_get (lr.trans hl.symm) e (by simp)]
      show SlotOk K G F.pin S H _ _ _ (if μ[i]? = some .x then [] else fp i)
      rw [if_neg (by rw [e]; simp)]
      exact z
    | o =>
      have : n = .o := by cases n <;> simp_all [ModeLe]
      subst this
      rw [keep_get (lr.trans hl.symm) e (by simp)]
      show SlotOk K G F.pin S H _ _ _ (if μ[i]? = some .x then [] else fp i)
      rw [if_neg (by rw [e]; simp)]
      exact z
theorem EnvOk.frzP {i : Nat} (h : EnvOk K G F S H μ σ ρ) (hi : i < μ.length) (hm : ∀ fp, SlotOk K G F.pin S H (μ.getD i .x) (σ[i]?) (ρ.getD i .non) fp → ∃ v, σ[i]? = some (some v) ∧ ∀ S', Ex S S' → (∀ a ∈ fp, S' a = H a) → Dat K G S' v (ρ.getD i .non)) : ∃ S', Ex S S' ∧ EnvOk K G F S' H (μ.set i .d) σ ρ := by
  obtain ⟨sh, fk, ls, lr, fp, ⟨f1, f2, f3⟩, f4, sl⟩ := h
  obtain ⟨v, hp, ow⟩ := hm (fp i) (sl i _ (by rw [List.getD_eq_getElem?_getD, List.getElem?_eq_getElem hi]; rfl))
  have e1 : Ex S (fun a => if a ∈ fp i then H a else S a) := fun a o e => by
    show (if a ∈ fp i then H a else S a) = some o
    split
    · exact sh _ _ e
    · exact e
  refine ⟨fun a => if a ∈ fp i then H a else S a, e1, fun a o e => ?_, fun a o e => ⟨(fk a o e).1, ?_⟩, by simp [ls], by simp [lr], fun j => if j = i then [] else fp j, ⟨?_, ?_, ?_⟩, ?_, ?_⟩
  · have e' : (if a ∈ fp i then H a else S a) = some o := e
    split at e'
    · exact e'
    · exact sh _ _ e'
  · show (if a ∈ fp i then H a else S a) = none
    rw [if_neg]
    · exact (fk a o e).2
    · intro ha
      rw [(f1 i a ha).2] at e
      cases e
  · intro j a ha
    by_cases h1 : j = i
    · rw [if_pos h1] at ha
      cases ha
    · rw [if_neg h1] at ha
      refine ⟨?_, (f1 j a ha).2⟩
      show (if a ∈ fp i then H a else S a) = none
      rw [if_neg fun hb => h1 (f2 _ _ a ha hb)]
      exact (f1 j a ha).1
  · intro j k a ha hb
    by_cases h1 : j = i
    · rw [if_pos h1] at ha
      cases ha
    · by_cases h2 : k = i
      · rw [if_pos h2] at hb
        cases hb
      · rw [if_neg h1] at ha
        rw [if_neg h2] at hb
        exact f2 _ _ a ha hb
  · intro j
    show (if j = i then [] else fp j).Nodup
    split
    · exact List.nodup_nil
    · exact f3 j
  · intro j hj
    show (if j = i then [] else fp j) = []
    split
    · rfl
    · exact f4 j (by simpa using hj)
  · intro j m e
    by_cases h1 : j = i
    · subst h1
      rw [List.getElem?_set_self hi] at e
      cases e
      refine ⟨if_pos rfl, v, hp, ow _ e1 fun a ha => ?_⟩
      show (if a ∈ fp j then H a else S a) = H a
      rw [if_pos ha]
    · rw [List.getElem?_set_ne (Ne.symm h1)] at e
      show SlotOk K G F.pin _ H m _ _ (if j = i then [] else fp j)
      rw [if_neg h1]
      exact (sl j m e).mono e1 fun _ _ => rfl
noncomputable def isOwn : Mode → Bool
  | .o => true
  | .w _ => true
  | .s _ _ => true
  | _ => false
theorem EnvOk.frzM {i : Nat} {m : Mode} (h : EnvOk K G F S H μ σ ρ) (hm : μ[i]? = some m) (ho : isOwn m = true) : ∃ S', Ex S S' ∧ EnvOk K G F S' H (μ.set i .d) σ ρ := by
  refine h.frzP (List.getElem?_eq_some_iff.mp hm).1 fun fp q => ?_
  rw [List.getD_eq_getElem?_getD, hm] at q
  cases m with
  | o => exact let ⟨p, a, b, _⟩ := q; ⟨_, a, fun S' e1 k => b.frz e1 k⟩
  | w sh => exact let ⟨p, a, b⟩ := q; ⟨_, a, fun S' e1 k => match b.frz e1 k with | .cons z _ => z⟩
  | s _ sh => exact ⟨_, q.1, fun S' e1 k => match q.2.frz e1 k with | .cons z _ => z⟩
  | _ => cases ho
theorem EnvOk.frz {i : Nat} (h : EnvOk K G F S H μ σ ρ) (hm : μ[i]? = some .o) : ∃ S', Ex S S' ∧ EnvOk K G F S' H (μ.set i .d) σ ρ := h.frzM hm rfl
noncomputable def rest (H S : Hp) : Hp := fun a => match S a, H a with
  | none, some o => if noTup o = true then some o else none
  | _, _ => none
theorem rest_some {a : Addr} {o : HO} (h : rest H S a = some o) : H a = some o ∧ S a = none := by
  unfold rest at h
  split at h
  · split at h
    · cases h
      exact ⟨by assumption, by assumption⟩
    · cases h
  · cases h
theorem rest_nt {H S : Hp} (a : Addr) (o : HO) (h : rest H S a = some o) : noTup o = true := by
  unfold rest at h
  split at h
  · split at h
    · cases h
      assumption
    · cases h
  · cases h
theorem rest_of {a : Addr} {o : HO} (h : H a = some o) (h2 : S a = none) (h3 : noTup o = true) : rest H S a = some o := by
  unfold rest
  rw [h2, h]
  exact if_pos h3
theorem replicate_get {α : Type} {n i : Nat} {a m : α} (h : (List.replicate n a)[i]? = some m) : m = a ∧ i < n := by
  rw [List.getElem?_replicate] at h
  split at h
  · cases h
    exact ⟨rfl, by assumption⟩
  · cases h
theorem EnvOk.args {vs : List V} {ds : List D} (sh : Ex S H) (fk : ∀ a o, F a = some o → H a = some o ∧ S a = none) (ha : DatL K G S vs ds) (k : Nat) :
    EnvOk K G F S H (List.replicate ds.length .d ++ List.replicate k .x) (vs.map some ++ List.replicate k none) (ds ++ List.replicate k .non) := by
  have hl := ha.length
  refine ⟨sh, fk, by simp [hl], by simp, fun _ => [], ⟨fun _ _ h => (by cases h), fun _ _ _ h => (by cases h), fun _ => List.nodup_nil⟩, fun _ _ => rfl, fun i m e => ?_⟩
  by_cases hi : i < ds.length
  · rw [List.getElem?_append_left (by simpa using hi)] at e
    obtain ⟨rfl, _⟩ := replicate_get e
    obtain ⟨v, h1, h2⟩ := ha.get (i := i) (d := ds[i]) (by simp [hi])
    refine ⟨rfl, v, ?_, ?_⟩
    · rw [List.getElem?_append_left (by simp; omega), List.getElem?_map, h1]
      rfl
    · have : (ds ++ List.replicate k D.non).getD i .non = ds[i] := by simp [List.getD, List.getElem?_append_left hi, hi]
      rw [this]
      exact h2
  · rw [List.getElem?_append_right (by simp; omega)] at e
    obtain ⟨rfl, _⟩ := replicate_get e
    rfl
theorem EnvOk.call {vs : List V} {ds : List D} (h : EnvOk K G F S H μ σ ρ) (ha : DatL K G S vs ds) (k : Nat) :
    EnvOk K G ⟨rest H S, fun _ => 0, rest_nt⟩ S H (List.replicate ds.length .d ++ List.replicate k .x) (vs.map some ++ List.replicate k none) (ds ++ List.replicate k .non) :=
  EnvOk.args h.sh (fun _ _ q => rest_some q) ha k
theorem EnvOk.back0 (h : EnvOk K G F S H μ σ ρ) (e : Ex S S') {μ' : List Mode} {σ' : L2.St} {ρ' : List D} {pin : Nat → Addr} (q : EnvOk K G ⟨rest H S, pin, rest_nt⟩ S' H' μ' σ' ρ') : EnvOk K G F S' H' μ σ ρ := by
  refine h.grow e q.sh (fun a o ha nt0 => ?_) fun a o ha nt0 hs => (q.fk a o (rest_of ha hs nt0)).2
  cases z : S a with
  | none => exact (q.fk a o (rest_of ha z nt0)).1
  | some u =>
    have : u = o := by
      have := h.sh _ _ z
      rw [ha] at this
      exact (Option.some.inj this).symm
    subst this
    exact q.sh _ _ (e _ _ z)
theorem EnvOk.back (h : EnvOk K G F S H μ σ ρ) (e : Ex S S') {s : Option V} {μ' : List Mode} {σ' : L2.St} {ρ' : List D} {pin : Nat → Addr} (hr : pinless r = true) (q : EnvOk K G ⟨rest H S, pin, rest_nt⟩ S' H' (r :: μ') (s :: σ') (d :: ρ')) : EnvOk K G F S' H' (r :: μ) (s :: σ) (d :: ρ) := by
  have h2 := h.back0 e q
  obtain ⟨fp, ⟨f1, f2, f3⟩, f4, sl, th⟩ := h.fps
  obtain ⟨fp2, ⟨g1, g2, g3⟩, g4, sl2, th2⟩ := q.fps
  have away : ∀ i a, a ∈ fp i → a ∉ fp2 0 := fun i a ha hb => by
    obtain ⟨o, ho, nt0⟩ := th i a ha
    have z := rest_of ho (f1 i a ha).1 nt0
    rw [show rest H S a = none from (g1 0 a hb).2] at z
    cases z
  have nx : ∀ i m, μ[i]? = some m → SlotOk K G F.pin S' H' m (σ[i]?) (ρ.getD i .non) (fp i) := fun i m e1 => (sl i m e1).mono e fun a ha => by
    obtain ⟨o, ho, nt0⟩ := th i a ha
    rw [ho]
    exact (q.fk a o (rest_of ho (f1 i a ha).1 nt0)).1
  refine ⟨h2.sh, h2.fk, by simp [h2.ls], by simp [h2.lr], fun i => match i with | 0 => fp2 0 | i + 1 => fp i, ⟨?_, ?_, ?_⟩, ?_, ?_⟩
  · intro i a ha
    cases i with
    | zero =>
      refine ⟨(g1 0 a ha).1, ?_⟩
      cases z : F a with
      | none => rfl
      | some o =>
        obtain ⟨z1, z2⟩ := h.fk a o z
        have := rest_of z1 z2 (F.nt a o z)
        rw [show rest H S a = none from (g1 0 a ha).2] at this
        cases this
    | succ i =>
      obtain ⟨o, ho, nt0⟩ := th i a ha
      exact ⟨(q.fk a o (rest_of ho (f1 i a ha).1 nt0)).2, (f1 i a ha).2⟩
  · intro i j a ha hb
    cases i with
    | zero =>
      cases j with
      | zero => rfl
      | succ j => exact absurd ha (away j a hb)
    | succ i =>
      cases j with
      | zero => exact absurd hb (away i a ha)
      | succ j => exact congrArg (· + 1) (f2 i j a ha hb)
  · intro i
    cases i with
    | zero => exact g3 0
    | succ i => exact f3 i
  · intro i hi
    cases i with
    | zero => simp at hi
    | succ i => exact f4 i (by simpa using hi)
  · intro i m e1
    cases i with
    | zero =>
      simp only [List.getElem?_cons_zero, Option.some.injEq] at e1
      subst e1
      have z := (sl2 0 r rfl).repin (pin' := F.pin) hr
      simpa using z
    | succ i =>
      have z := nx i m (by simpa using e1)
      simpa using z
theorem EnvOk.var {i : Nat} (h : EnvOk K G F S H μ σ ρ) (e : μ[i]? = some .d) : ∃ v, σ[i]? = some (some v) ∧ Dat K G S v (ρ.getD i .non) := by
  obtain ⟨fp, _, _, sl⟩ := h.sl
  exact (sl i .d e).2
theorem EnvOk.evar {i : Nat} {a : EI} (h : EnvOk K G F S H μ σ ρ) (e : μ[i]? = some (.e a)) : σ[i]? = some (some (.ref a.a)) := by
  obtain ⟨fp, _, _, sl⟩ := h.sl
  exact (sl i (.e a) e).2.1
theorem EnvOk.eok {i : Nat} {a : EI} (h : EnvOk K G F S H μ σ ρ) (e : μ[i]? = some (.e a)) : errOk G S a := by
  obtain ⟨fp, _, _, sl⟩ := h.sl
  exact (sl i (.e a) e).2.2
theorem own_flat {vs : List V} {ds : List D} {fp : List Addr} (h : OwnL K G S H vs ds fp) (e : fp = []) : DatL K G S vs ds := by
  match h with
  | .nil => exact .nil
  | .dat a t => exact .cons a (own_flat t e)
  | .own a _ =>
    exfalso
    cases a <;> simp at e
theorem EnvOk.ovar {i : Nat} (h : EnvOk K G F S H μ σ ρ) (e : μ[i]? = some .o) : ∃ p, σ[i]? = some (some (.ref p)) ∧ Own K G S H p (ρ.getD i .non) [p] := by
  obtain ⟨fp, _, _, sl⟩ := h.sl
  obtain ⟨p, a, b, c⟩ := sl i .o e
  rw [c] at b
  exact ⟨p, a, b⟩
end
end MR
namespace MR
open PySem L2
inductive RR (α : Type) where
  | ok (a : α) (ρ : List D) | exc (e : Err) (ρ : List D) | bad
inductive Out where
  | nx (ρ : List D) | ret (d : D) (ρ : List D) | brk (ρ : List D) | cnt (ρ : List D) | exc (e : Err) (ρ : List D) | bad
inductive RP where
  | ok (d : D) | exc (e : Err) | bad
noncomputable abbrev ME := List D → RR D
noncomputable abbrev MT := List D → RR Bool
noncomputable abbrev MA := List D → RR (List D)
noncomputable abbrev MS := List D → Out
noncomputable abbrev MP := List D → RP
noncomputable abbrev MB := D → List D → Option (List D)
noncomputable def ErrAt (G : Cl) (e : Err) (c : Value) (dct : Option Addr) (S : Hp) : Prop :=
  c = .ref (G.eA e.tag) ∧ lineOk S dct e
noncomputable abbrev XS := L2.St → XK
structure SC where
  E : XS
  rm : Mode
  μx : List Mode
  μb : List Mode
  μc : List Mode
section
variable (K : PySem.W.Frag) (G : Cl)
noncomputable def XOk (E : XS) (μ : List Mode) (F : Fo) (S : Hp) (σ : L2.St) (e : Err) (ρ' : List D) : Prop :=
  ∀ c dct S' H', Ex S S' → EnvOk K G F S' H' μ σ ρ' → ErrAt G e c dct S' → E σ c dct H'
noncomputable def EOk (E : XS) (r : Mode) (μ : List Mode) (F : Fo) (S : Hp) (σ : L2.St) (Q : VK) : RR D → Prop
  | .ok d ρ' => ∀ v S' H', Ex S S' → EnvOk K G F S' H' (r :: μ) (some v :: σ) (d :: ρ') → Q v H'
  | .exc e ρ' => XOk K G E μ F S σ e ρ'
  | .bad => False
noncomputable def TOk (E : XS) (μ : List Mode) (F : Fo) (S : Hp) (σ : L2.St) (Q : Bool → Hp → Prop) : RR Bool → Prop
  | .ok b ρ' => ∀ S' H', Ex S S' → EnvOk K G F S' H' μ σ ρ' → Q b H'
  | .exc e ρ' => XOk K G E μ F S σ e ρ'
  | .bad => False
noncomputable def AOk (E : XS) (μ : List Mode) (F : Fo) (S : Hp) (σ : L2.St) (Q : List V → Hp → Prop) : RR (List D) → Prop
  | .ok ds ρ' => ∀ vs S' H', Ex S S' → EnvOk K G F S' H' μ σ ρ' → DatL K G S' vs ds → Q vs H'
  | .exc e ρ' => XOk K G E μ F S σ e ρ'
  | .bad => False
structure ItOk (F : Fo) (S : Hp) (J : It) (ds : List D) : Prop where
  goes : ∀ i H, i < ds.length → Ex S H → Ex F.hp H → J.go i H
  stops : ∀ H, Ex S H → Ex F.hp H → J.stop ds.length H
  yields : ∀ i H x H' d, ds[i]? = some d → Ex S H → Ex F.hp H → J.yld i H x H' →
    (H' = H ∧ Dat K G S x d) ∨ ∃ T xs es, x = .ref T ∧ H T = none ∧ H' = upd H T (.tup xs) ∧ d = .tup es ∧ DatL K G S xs es
noncomputable def IOk (E : XS) (μ : List Mode) (F : Fo) (S : Hp) (σ : L2.St) (R : It → Hp → Prop) : RR (List D) → Prop
  | .ok ds ρ' => ∀ J S' H', Ex S S' → EnvOk K G F S' H' μ σ ρ' → ItOk K G F S' J ds → R J H'
  | .exc e ρ' => XOk K G E μ F S σ e ρ'
  | .bad => False
noncomputable def OutOk (C : SC) (μ' : List Mode) (F : Fo) (S : Hp) (D : Ends) : Out → Prop
  | .nx ρ' => ∀ σ' S' H', Ex S S' → EnvOk K G F S' H' μ' σ' ρ' → D.nx σ' H'
  | .ret d ρ' => ∀ v μ1 σ' S' H', ModesLe C.μx μ1 = true → Ex S S' → EnvOk K G F S' H' (C.rm :: μ1) (some v :: σ') (d :: ρ') → D.rt v H'
  | .brk ρ' => ∀ σ' S' H', Ex S S' → EnvOk K G F S' H' C.μb σ' ρ' → D.bk σ' H'
  | .cnt ρ' => ∀ σ' S' H', Ex S S' → EnvOk K G F S' H' C.μc σ' ρ' → D.ct σ' H'
  | .exc e ρ' => ∀ μ1 σ' c dct S' H', ModesLe C.μx μ1 = true → Ex S S' → EnvOk K G F S' H' μ1 σ' ρ' → ErrAt G e c dct S' → C.E σ' c dct H'
  | .bad => False
noncomputable def SE (E : XS) (r : Mode) (μ : List Mode) (t : TE) (m : ME) : Prop := ∀ F S H σ ρ, EnvOk K G F S H μ σ ρ → ∀ Q : VK, EOk K G E r μ F S σ Q (m ρ) → t σ H Q
noncomputable def ST (E : XS) (μ : List Mode) (t : TT) (m : MT) : Prop := ∀ F S H σ ρ, EnvOk K G F S H μ σ ρ → ∀ Q, TOk K G E μ F S σ Q (m ρ) → t σ H Q
noncomputable def SA (E : XS) (μ : List Mode) (t : TA) (m : MA) : Prop := ∀ F S H σ ρ, EnvOk K G F S H μ σ ρ → ∀ Q, AOk K G E μ F S σ Q (m ρ) → t σ H Q
noncomputable def SI (E : XS) (μ : List Mode) (t : TI) (m : MA) : Prop := ∀ F S H σ ρ, EnvOk K G F S H μ σ ρ → ∀ R, IOk K G E μ F S σ R (m ρ) → t σ H R
noncomputable def SG (μ μ' : List Mode) (g : TG) (b : MB) : Prop := ∀ F S H σ ρ v d ρ', EnvOk K G F S H μ σ ρ → Dat K G S v d → b d ρ = some ρ' →
  ∀ Q : L2.St → Hp → Prop, (∀ σ' S' H', Ex S S' → EnvOk K G F S' H' μ' σ' ρ' → Q σ' H') → g v σ H Q
noncomputable def SS (C : SC) (μ μ' : List Mode) (t : TS) (m : MS) : Prop := ∀ F S H σ ρ, EnvOk K G F S H μ σ ρ → ∀ D : Ends, OutOk K G C μ' F S D (m ρ) → t D σ H
end
section
variable {K : PySem.W.Frag} {G : Cl} {E : XS} {C : SC} {μ μ' : List Mode} {r : Mode} {F : Fo} {S S' : Hp} {σ : L2.St}
theorem XOk.mono {e : Err} {ρ' : List D} (x : Ex S S') (k : XOk K G E μ F S σ e ρ') : XOk K G E μ F S' σ e ρ' := fun c d S2 H2 e2 h2 z => k c d S2 H2 (x.trans e2) h2 z
theorem EOk.mono {Q : VK} (x : Ex S S') : ∀ {o : RR D}, EOk K G E r μ F S σ Q o → EOk K G E r μ F S' σ Q o
  | .ok _ _, k => fun v S2 H2 e2 h2 => k v S2 H2 (x.trans e2) h2
  | .exc _ _, k => XOk.mono x k
  | .bad, k => k
theorem TOk.mono {Q : Bool → Hp → Prop} (x : Ex S S') : ∀ {o : RR Bool}, TOk K G E μ F S σ Q o → TOk K G E μ F S' σ Q o
  | .ok _ _, k => fun S2 H2 e2 h2 => k S2 H2 (x.trans e2) h2
  | .exc _ _, k => XOk.mono x k
  | .bad, k => k
theorem AOk.mono {Q : List V → Hp → Prop} (x : Ex S S') : ∀ {o : RR (List D)}, AOk K G E μ F S σ Q o → AOk K G E μ F S' σ Q o
  | .ok _ _, k => fun v S2 H2 e2 h2 => k v S2 H2 (x.trans e2) h2
  | .exc _ _, k => XOk.mono x k
  | .bad, k => k
theorem IOk.mono {R : It → Hp → Prop} (x : Ex S S') : ∀ {o : RR (List D)}, IOk K G E μ F S σ R o → IOk K G E μ F S' σ R o
  | .ok _ _, k => fun v S2 H2 e2 h2 => k v S2 H2 (x.trans e2) h2
  | .exc _ _, k => XOk.mono x k
  | .bad, k => k
theorem OutOk.mono {D : Ends} (e : Ex S S') : ∀ {o : Out}, OutOk K G C μ' F S D o → OutOk K G C μ' F S' D o
  | .nx _, k => fun σ2 S2 H2 e2 h2 => k σ2 S2 H2 (e.trans e2) h2
  | .ret _ _, k => fun v m1 σ2 S2 H2 l e2 h2 => k v m1 σ2 S2 H2 l (e.trans e2) h2
  | .brk _, k => fun σ2 S2 H2 e2 h2 => k σ2 S2 H2 (e.trans e2) h2
  | .cnt _, k => fun σ2 S2 H2 e2 h2 => k σ2 S2 H2 (e.trans e2) h2
  | .exc _ _, k => fun m1 σ2 c d S2 H2 l e2 h2 => k m1 σ2 c d S2 H2 l (e.trans e2) h2
  | .bad, k => k
end
structure JE (X : Cx) (G : Cl) (E : XS) (r : Mode) (μ : List Mode) (e : Expr) (m : ME) : Prop where
  ex : ∃ t, PE X e t ∧ SE X.K G E r μ t m
structure JT (X : Cx) (G : Cl) (E : XS) (μ : List Mode) (e : Expr) (m : MT) : Prop where
  ex : ∃ t, PT X e t ∧ ST X.K G E μ t m
structure JW (X : Cx) (G : Cl) (E : XS) (μ : List Mode) (e : Expr) (m : MT) : Prop where
  ex : ∃ t, PW X e t ∧ ST X.K G E μ t m
structure JA (X : Cx) (G : Cl) (E : XS) (μ : List Mode) (es : List Expr) (m : MA) : Prop where
  ex : ∃ t, PA X es t ∧ SA X.K G E μ t m
structure JI (X : Cx) (G : Cl) (E : XS) (μ : List Mode) (tg iter : Expr) (m : MA) : Prop where
  ex : ∃ t, PI X tg iter t ∧ SI X.K G E μ t m
structure JG (X : Cx) (G : Cl) (μ μ' : List Mode) (e : Expr) (b : MB) : Prop where
  ex : ∃ g, PG X e g ∧ SG X.K G μ μ' g b
structure JGs (X : Cx) (G : Cl) (μ μ' : List Mode) (es : List Expr) (b : List D → List D → Option (List D)) : Prop where
  ex : ∃ g, PGs X es g ∧ ∀ F S H σ ρ vs ds ρ', EnvOk X.K G F S H μ σ ρ → DatL X.K G S vs ds → b ds ρ = some ρ' →
    ∀ Q : L2.St → Hp → Prop, (∀ σ' S' H', Ex S S' → EnvOk X.K G F S' H' μ' σ' ρ' → Q σ' H') → g vs σ H Q
structure JS (X : Cx) (G : Cl) (C : SC) (μ μ' : List Mode) (st : Stmt) (m : MS) : Prop where
  ex : ∃ t, PS X st t ∧ SS X.K G C μ μ' t m
structure JSs (X : Cx) (G : Cl) (C : SC) (μ μ' : List Mode) (sts : List Stmt) (m : MS) : Prop where
  ex : ∃ t, PSs X sts t ∧ SS X.K G C μ μ' t m
section
variable {X : Cx} {G : Cl} {E : XS} {C : SC} {μ μ' μ1 : List Mode} {r : Mode}
theorem xout {K : PySem.W.Frag} {F : Fo} {S : Hp} {σ : L2.St} {e : Err} {ρ' : List D} (w : ModesLe C.μx μ = true)
    (k : ∀ μ1 σ' c dct S' H', ModesLe C.μx μ1 = true → Ex S S' → EnvOk K G F S' H' μ1 σ' ρ' → ErrAt G e c dct S' → C.E σ' c dct H') : XOk K G C.E μ F S σ e ρ' :=
  fun c d S' H' e h' z => k μ σ c d S' H' w e h' z
noncomputable def mNext : MS := fun ρ => .nx ρ
noncomputable def mSeq (a b : MS) : MS := fun ρ => match a ρ with
  | .nx ρ' => b ρ'
  | o => o
theorem jss_nil : JSs X G C μ μ [] mNext := ⟨tNext, pss_nil, fun F S H σ ρ h D k => k σ S H (Evl.Ex.refl S) h⟩
theorem ss_seq {K : PySem.W.Frag} {t u : TS} {a b : MS} (h1 : SS K G C μ μ1 t a) (h2 : SS K G C μ1 μ' u b) : SS K G C μ μ' (tSeq t u) (mSeq a b) := by
  intro F S H σ ρ h D k
  refine h1 F S H σ ρ h { D with nx := u D } ?_
  unfold mSeq at k
  cases q : a ρ with
  | nx ρ' =>
    rw [q] at k
    exact fun σ' S' H' e h' => h2 F S' H' σ' ρ' h' D (OutOk.mono e k)
  | _ => rw [q] at k; exact k
theorem jss_cons {st : Stmt} {rest : List Stmt} {a b : MS} (h1 : JS X G C μ μ1 st a) (h2 : JSs X G C μ1 μ' rest b) : JSs X G C μ μ' (st :: rest) (mSeq a b) := by
  obtain ⟨t, p1, s1⟩ := h1.ex
  obtain ⟨u, p2, s2⟩ := h2.ex
  exact ⟨_, pss_cons p1 p2, ss_seq s1 s2⟩
theorem jss_one {st : Stmt} {a : MS} (h1 : JS X G C μ μ' st a) : JSs X G C μ μ' [st] a := by
  obtain ⟨t, p1, s1⟩ := h1.ex
  exact ⟨_, pss_one p1, s1⟩
noncomputable def mKeep (μ : List Mode) (a : MS) : MS := fun ρ => match a ρ with
  | .nx ρ' => .nx (keep μ ρ')
  | o => o
theorem jss_weak {sts : List Stmt} {a : MS} (h : JSs X G C μ μ1 sts a) (w : ModesLe μ' μ1 = true := by rfl) : JSs X G C μ μ' sts (mKeep μ' a) := by
  obtain ⟨t, p1, s1⟩ := h.ex
  refine ⟨t, p1, fun F S H σ ρ h D k => s1 F S H σ ρ h D ?_⟩
  unfold mKeep at k
  cases q : a ρ with
  | nx ρ' =>
    rw [q] at k
    exact fun σ' S' H' e h' => k σ' S' H' e (h'.weak w)
  | _ => rw [q] at k; exact k
noncomputable def mKeep0 (μ : List Mode) (a : MS) : MS := fun ρ => a (keep μ ρ)
theorem js_weak0 {st : Stmt} {a : MS} (h : JS X G C μ1 μ' st a) (w : ModesLe μ1 μ = true := by rfl) : JS X G C μ μ' st (mKeep0 μ1 a) := by
  obtain ⟨t, p1, s1⟩ := h.ex
  exact ⟨t, p1, fun F S H σ ρ h D k => s1 F S H σ _ (h.weak w) D k⟩
theorem jss_frz {sts : List Stmt} {a : MS} (i : Nat) {mo : Mode} (h : JSs X G C (μ.set i .d) μ' sts a) (e : μ[i]? = some mo := by rfl) (ho : isOwn mo = true := by rfl) : JSs X G C μ μ' sts a := by
  obtain ⟨t, p1, s1⟩ := h.ex
  refine ⟨t, p1, fun F S H σ ρ h D k => ?_⟩
  obtain ⟨S1, e1, h1⟩ := h.frzM e ho
  exact s1 F S1 H σ ρ h1 D (OutOk.mono e1 k)
noncomputable def mAsg (i : Nat) (a : ME) : MS := fun ρ => match a ρ with
  | .ok d ρ' => .nx (ρ'.set i d)
  | .exc e ρ' => .exc e ρ'
  | .bad => .bad
theorem js_asg {i : Nat} {x : Str} {e : Expr} {a : ME} {pos pos' : Pos} (hN : X.N.Nodup) (he : JE X G C.E r μ e a) (hi : X.N[i]? = some x := by rfl) (hx : Loc X.env.scope x := by first | exact Or.inl rfl | exact Or.inr rfl) (hlt : i < μ.length := by decide) (w : ModesLe C.μx μ = true := by rfl)
    (hs : swapsWith e (some (.Name x pos')) pos.line X.env = pure false := by rfl) (hf : X.fn x = true ∨ X.env.scope.names.lookup x = some .local := by first | exact .inl rfl | exact .inr rfl) :
    JS X G C μ (μ.set i r) (.Assign [.Name x pos'] e pos) (mAsg i a) := by
  obtain ⟨t, p1, s1⟩ := he.ex
  refine ⟨_, ps_set hN hi hx p1 hs hf, fun F S H σ ρ h D k => ?_⟩
  refine s1 F S H σ ρ h _ ?_
  unfold mAsg at k
  cases q : a ρ with
  | ok d ρ' => rw [q] at k; exact fun v S' H' e h' => k _ S' H' e (h'.store hlt)
  | exc e ρ' => rw [q] at k; exact xout w k
  | bad => rw [q] at k; exact k
noncomputable def mRet (a : ME) : MS := fun ρ => match a ρ with
  | .ok d ρ' => .ret d ρ'
  | .exc e ρ' => .exc e ρ'
  | .bad => .bad
theorem js_ret {e : Expr} {a : ME} {pos : Pos} (he : JE X G C.E C.rm μ e a) (w : ModesLe C.μx μ = true := by rfl) : JS X G C μ μ' (.Return (some e) pos) (mRet a) := by
  obtain ⟨t, p1, s1⟩ := he.ex
  refine ⟨_, ps_ret p1, fun F S H σ ρ h D k => ?_⟩
  refine s1 F S H σ ρ h _ ?_
  unfold mRet at k
  cases q : a ρ with
  | ok d ρ' => rw [q] at k; exact fun v S' H' e h' => k v μ σ S' H' w e h'
  | exc e ρ' => rw [q] at k; exact xout w k
  | bad => rw [q] at k; exact k
noncomputable def mDrop (a : ME) : MS := fun ρ => match a ρ with
  | .ok _ ρ' => .nx ρ'
  | .exc e ρ' => .exc e ρ'
  | .bad => .bad
theorem js_drop {e : Expr} {a : ME} {pos : Pos} (he : JE X G C.E r μ e a) (w : ModesLe C.μx μ = true := by rfl) (hs : swapsWith e none pos.line X.env = pure false := by rfl) : JS X G C μ μ (.Expr e pos) (mDrop a) := by
  obtain ⟨t, p1, s1⟩ := he.ex
  refine ⟨_, ps_expr p1 hs, fun F S H σ ρ h D k => ?_⟩
  refine s1 F S H σ ρ h _ ?_
  unfold mDrop at k
  cases q : a ρ with
  | ok d ρ' => rw [q] at k; exact fun v S' H' e h' => k σ S' H' e h'.tail
  | exc e ρ' => rw [q] at k; exact xout w k
  | bad => rw [q] at k; exact k
noncomputable def mIf (c : MT) (a b : MS) : MS := fun ρ => match c ρ with
  | .ok true ρ' => a ρ'
  | .ok false ρ' => b ρ'
  | .exc e ρ' => .exc e ρ'
  | .bad => .bad
theorem js_if {c : Expr} {a b : List Stmt} {mc : MT} {ma mb : MS} {pos : Pos} (hc : JT X G C.E μ c mc) (ha : JSs X G C μ μ' a ma) (hb : JSs X G C μ μ' b mb) (w : ModesLe C.μx μ = true := by rfl) : JS X G C μ μ' (.If c a b pos) (mIf mc ma mb) := by
  obtain ⟨t, p1, s1⟩ := hc.ex
  obtain ⟨ta, p2, s2⟩ := ha.ex
  obtain ⟨tb, p3, s3⟩ := hb.ex
  refine ⟨_, ps_if p1 p2 p3, fun F S H σ ρ h D k => ?_⟩
  refine s1 F S H σ ρ h _ ?_
  unfold mIf at k
  cases q : mc ρ with
  | ok x ρ1 =>
    rw [q] at k
    intro S1 H1 e1 h1
    cases x with
    | true =>
      rw [if_pos rfl]
      exact s2 F S1 H1 σ ρ1 h1 D (OutOk.mono e1 k)
    | false =>
      rw [if_neg Bool.false_ne_true]
      exact s3 F S1 H1 σ ρ1 h1 D (OutOk.mono e1 k)
  | exc e1 ρ1 => rw [q] at k; exact xout w k
  | bad => rw [q] at k; exact k
noncomputable def whileN (c : MT) (a : MS) : Nat → MS
  | 0, _ => .bad
  | n + 1, ρ => match c ρ with
    | .ok true ρ1 => match a ρ1 with
      | .nx ρ2 => whileN c a n ρ2
      | .cnt ρ2 => whileN c a n ρ2
      | .brk ρ2 => .nx ρ2
      | o => o
    | .ok false ρ1 => .nx ρ1
    | .exc e ρ1 => .exc e ρ1
    | .bad => .bad
noncomputable def mWhile (fuel : List D → Nat) (c : MT) (a : MS) : MS := fun ρ => whileN c a (fuel ρ) ρ
theorem js_while {c : Expr} {body : List Stmt} {mc : MT} {mb : MS} {pos : Pos} (fuel : List D → Nat) (hp : PassesOwn (model X.prog X.w) X.A X.env X.xe) (hc : JT X G C.E μ c mc)
    (hb : JSs X G { C with μb := μ, μc := μ } μ μ body mb) (w : ModesLe C.μx μ = true := by rfl) : JS X G C μ μ (.While c body [] pos) (mWhile fuel mc mb) := by
  obtain ⟨t, p1, s1⟩ := hc.ex
  obtain ⟨tb, p2, s2⟩ := hb.ex
  refine ⟨_, ps_while hp p1 p2, fun F S H σ ρ h D k => ?_⟩
  refine ⟨fun n σ1 H1 => ∃ S1 ρ1, EnvOk X.K G F S1 H1 μ σ1 ρ1 ∧ OutOk X.K G C μ F S1 D (whileN mc mb n ρ1), ⟨fuel ρ, S, ρ, h, k⟩, ?_⟩
  rintro n σ1 H1 ⟨S1, ρ1, h1, k1⟩
  cases n with
  | zero => exact k1.elim
  | succ n =>
    refine s1 F S1 H1 σ1 ρ1 h1 _ ?_
    unfold whileN at k1
    cases q : mc ρ1 with
    | ok x ρ2 =>
      rw [q] at k1
      intro S2 H2 e2 h2
      cases x with
      | true =>
        rw [if_pos rfl]
        refine ⟨fun σ3 H3 => ∃ S3 ρ3, EnvOk X.K G F S3 H3 μ σ3 ρ3 ∧ OutOk X.K G C μ F S3 D (whileN mc mb n ρ3), fun σ3 H3 z => ⟨n, Nat.lt_succ_self n, z⟩, ?_⟩
        refine s2 F S2 H2 σ1 ρ2 h2 _ ?_
        have k2 := OutOk.mono e2 k1
        simp only at k2
        cases q2 : mb ρ2 with
        | nx ρ3 => rw [q2] at k2; exact fun σ3 S3 H3 e3 h3 => ⟨S3, ρ3, h3, OutOk.mono e3 k2⟩
        | cnt ρ3 => rw [q2] at k2; exact fun σ3 S3 H3 e3 h3 => ⟨S3, ρ3, h3, OutOk.mono e3 k2⟩
        | brk ρ3 => rw [q2] at k2; exact fun σ3 S3 H3 e3 h3 => k2 σ3 S3 H3 e3 h3
        | ret d ρ3 => rw [q2] at k2; exact fun v m1 σ3 S3 H3 l e3 h3 => k2 v m1 σ3 S3 H3 l e3 h3
        | exc d ρ3 => rw [q2] at k2; exact fun m1 σ3 c d S3 H3 l e3 h3 => k2 m1 σ3 c d S3 H3 l e3 h3
        | bad => rw [q2] at k2; exact k2
      | false =>
        rw [if_neg Bool.false_ne_true]
        exact k1 σ1 S2 H2 e2 h2
    | exc e1 ρ2 => rw [q] at k1; exact xout w k1
    | bad => rw [q] at k1; exact k1
noncomputable def forL (b : MB) (a : MS) : List D → MS
  | [], ρ => .nx ρ
  | d :: ds, ρ => match b d ρ with
    | none => .bad
    | some ρ1 => match a ρ1 with
      | .nx ρ2 => forL b a ds ρ2
      | .cnt ρ2 => forL b a ds ρ2
      | .brk ρ2 => .nx ρ2
      | o => o
noncomputable def mFor (it : MA) (b : MB) (a : MS) : MS := fun ρ => match it ρ with
  | .ok ds ρ1 => forL b a ds ρ1
  | .exc e ρ1 => .exc e ρ1
  | .bad => .bad
theorem ItOk.item {K : PySem.W.Frag} {F : Fo} {S S0 H H' : Hp} {σ : L2.St} {ρ : List D} {J : It} {ds : List D} {i : Nat} {x : V} {d : D} {F0 : Fo} (w : ItOk K G F0 S0 J ds) (h : EnvOk K G F S H μ σ ρ) (e : Ex S0 S) (ef : Ex F0.hp H) (hd : ds[i]? = some d) (y : J.yld i H x H') :
    ∃ S', Ex S S' ∧ EnvOk K G F S' H' μ σ ρ ∧ Dat K G S' x d := by
  rcases w.yields i H x H' d hd (e.trans h.sh) ef y with ⟨rfl, q⟩ | ⟨T, xs, es, rfl, hT, rfl, rfl, q⟩
  · exact ⟨S, Evl.Ex.refl S, h, q.mono e⟩
  · have hS : S T = none := ex_none h.sh hT
    have e1 : Ex S (upd S T (.tup xs)) := Evl.Ex.new hS
    refine ⟨upd S T (.tup xs), e1, h.grow e1 (fun a o ha => ?_) (fun a o q _ => Evl.Ex.new hT a o q) fun a o ha _ hs => ?_, .tup (Or.inl (Or.inl upd_same)) ((q.mono e).mono e1)⟩
    · by_cases z : a = T
      · subst z
        rw [upd_same] at ha ⊢
        exact ha
      · rw [upd_ne z] at ha ⊢
        exact h.sh _ _ ha
    · rw [upd_ne (ne_of_none ha hT)]
      exact hs
theorem js_for {tg iter : Expr} {body : List Stmt} {mi : MA} {b : MB} {mb : MS} {pos : Pos} (hp : PassesOwn (model X.prog X.w) X.A X.env X.xe) (hi : JI X G C.E μ tg iter mi) (hg : JG X G μ μ1 tg b)
    (hb : JSs X G { C with μb := μ, μc := μ } μ1 μ body mb) (hc : X.calm = true := by rfl) (w : ModesLe C.μx μ = true := by rfl)
    (hs : ∀ x, foldedSetIterable iter X.env x = pure x := by intro _; rfl) : JS X G C μ μ (.For tg iter body [] pos) (mFor mi b mb) := by
  obtain ⟨ti, p1, s1⟩ := hi.ex
  obtain ⟨g, p2, s2⟩ := hg.ex
  obtain ⟨tb, p3, s3⟩ := hb.ex
  refine ⟨_, ps_for hp hc p1 p2 p3 hs, fun F S H σ ρ h D k => ?_⟩
  refine s1 F S H σ ρ h _ ?_
  unfold mFor at k
  cases q : mi ρ with
  | ok ds ρ1 =>
    rw [q] at k
    intro J S1 H1 e1 h1 it
    refine ⟨fun i m σ2 H2 => m = ds.length - i ∧ i ≤ ds.length ∧ ∃ S2 ρ2, Ex S1 S2 ∧ EnvOk X.K G F S2 H2 μ σ2 ρ2 ∧ OutOk X.K G C μ F S2 D (forL b mb (ds.drop i) ρ2), ⟨ds.length, by simp, Nat.zero_le _, S1, ρ1, Evl.Ex.refl S1, h1, OutOk.mono e1 k⟩, ?_⟩
    rintro i m σ2 H2 ⟨rfl, hi, S2, ρ2, e2, h2, k2⟩
    by_cases hlt : i < ds.length
    · refine .inr ⟨it.goes i H2 hlt (e2.trans h2.sh) h2.fx, fun σ3 H3 => ∃ S3 ρ3, Ex S1 S3 ∧ EnvOk X.K G F S3 H3 μ σ3 ρ3 ∧ OutOk X.K G C μ F S3 D (forL b mb (ds.drop (i + 1)) ρ3), fun σ3 H3 z => ⟨ds.length - (i + 1), by omega, rfl, hlt, z⟩, fun x H' y => ?_⟩
      obtain ⟨S3, e3, h3, q3⟩ := it.item h2 e2 h2.fx (List.getElem?_eq_getElem hlt) y
      rw [List.drop_eq_getElem_cons hlt] at k2
      unfold forL at k2
      cases q4 : b ds[i] ρ2 with
      | none => rw [q4] at k2; exact k2.elim
      | some ρ3 =>
        rw [q4] at k2
        refine s2 F S3 H' σ2 ρ2 x _ ρ3 h3 q3 q4 _ fun σ3 S4 H4 e4 h4 => ?_
        refine s3 F S4 H4 σ3 ρ3 h4 _ ?_
        have k3 := OutOk.mono (e3.trans e4) k2
        simp only at k3
        cases q5 : mb ρ3 with
        | nx ρ4 => rw [q5] at k3; exact fun σ5 S5 H5 e5 h5 => ⟨S5, ρ4, ((e2.trans e3).trans e4).trans e5, h5, OutOk.mono e5 k3⟩
        | cnt ρ4 => rw [q5] at k3; exact fun σ5 S5 H5 e5 h5 => ⟨S5, ρ4, ((e2.trans e3).trans e4).trans e5, h5, OutOk.mono e5 k3⟩
        | brk ρ4 => rw [q5] at k3; exact fun σ5 S5 H5 e5 h5 => k3 σ5 S5 H5 e5 h5
        | ret d ρ4 => rw [q5] at k3; exact fun v m1 σ5 S5 H5 l e5 h5 => k3 v m1 σ5 S5 H5 l e5 h5
        | exc d ρ4 => rw [q5] at k3; exact fun m1 σ5 c d S5 H5 l e5 h5 => k3 m1 σ5 c d S5 H5 l e5 h5
        | bad => rw [q5] at k3; exact k3
    · have e4 : i = ds.length := by omega
      subst e4
      rw [List.drop_length] at k2
      exact .inl ⟨it.stops H2 (e2.trans h2.sh) h2.fx, k2 σ2 S2 H2 (Evl.Ex.refl S2) h2⟩
  | exc e1 ρ1 => rw [q] at k; exact xout w k
  | bad => rw [q] at k; exact k
end
end MR
namespace MR
open PySem L2 PyProof.Rows
noncomputable def RR.bind {α β : Type} (o : RR α) (k : α → List D → RR β) : RR β := match o with
  | .ok a ρ => k a ρ
  | .exc e ρ => .exc e ρ
  | .bad => .bad
theorem bind_ok {α β : Type} (a : α) (ρ : List D) (k : α → List D → RR β) : (RR.ok a ρ).bind k = k a ρ := rfl
noncomputable def RR.of {α : Type} (o : Option α) (ρ : List D) : RR α := match o with
  | some a => .ok a ρ
  | none => .bad
section
variable {K : PySem.W.Frag} {G : Cl} {E : XS} {μ : List Mode} {r : Mode} {F : Fo} {S H : Hp} {σ : L2.St} {ρ : List D}
noncomputable def RVal (K : PySem.W.Frag) (G : Cl) (μ : List Mode) (F : Fo) (S : Hp) (σ : L2.St) (ρ : List D) (r : Mode) (z : D) (Q : VK) : Prop := ∀ v S' H', Ex S S' → EnvOk K G F S' H' (r :: μ) (some v :: σ) (z :: ρ) → Q v H'
theorem RVal.dat {z : D} {Q : VK} {v : V} {S' H' : Hp} (k : RVal K G μ F S σ ρ .d z Q) (e : Ex S S') (h : EnvOk K G F S' H' μ σ ρ) (q : Dat K G S' v z) : Q v H' := k v S' H' e (h.push q)
theorem EnvOk.alloc {p : Addr} {o : HO} (h : EnvOk K G F S H μ σ ρ) (hp : H p = none) : Ex S (upd S p o) ∧ EnvOk K G F (upd S p o) (upd H p o) μ σ ρ := by
  have hS : S p = none := ex_none h.sh hp
  refine ⟨Evl.Ex.new hS, h.grow (Evl.Ex.new hS) (fun a u q => ?_) (fun a o q _ => Evl.Ex.new hp a o q) fun a u q1 _ q2 => ?_⟩
  · by_cases e : a = p
    · subst e
      rw [upd_same] at q ⊢
      exact q
    · rw [upd_ne e] at q ⊢
      exact h.sh _ _ q
  · rw [upd_ne (ne_of_none q1 hp)]
    exact q2
theorem RVal.tup {ds : List D} {Q : VK} {vs : List V} {p : Addr} (k : RVal K G μ F S σ ρ .d (.tup ds) Q) (h : EnvOk K G F S H μ σ ρ) (q : DatL K G S vs ds) (hp : H p = none) : Q (.ref p) (upd H p (.tup vs)) := by
  obtain ⟨e, h'⟩ := h.alloc (o := .tup vs) hp
  exact k.dat e h' (.tup (Or.inl (Or.inl upd_same)) (q.mono e))
theorem RVal.lst {ds : List D} {Q : VK} {vs : List V} {p : Addr} (k : RVal K G μ F S σ ρ .d (.lst ds) Q) (h : EnvOk K G F S H μ σ ρ) (q : DatL K G S vs ds) (hp : H p = none) : Q (.ref p) (upd H p (.lst vs)) := by
  obtain ⟨e, h'⟩ := h.alloc (o := .lst vs) hp
  exact k.dat e h' (.lst upd_same (q.mono e))
theorem RVal.lstO {ds : List D} {Q : VK} {vs : List V} {p : Addr} (k : RVal K G μ F S σ ρ .o (.lst ds) Q) (h : EnvOk K G F S H μ σ ρ) (q : DatL K G S vs ds) (hp : H p = none) : Q (.ref p) (upd H p (.lst vs)) :=
  k _ _ _ (Evl.Ex.refl S) (h.pushO hp (.lst upd_same q.ownL))
theorem RVal.new {ds : List D} {Q : VK} {vs : List V} {p : Addr} (hr : r = .d ∨ r = .o) (k : RVal K G μ F S σ ρ r (.lst ds) Q) (h : EnvOk K G F S H μ σ ρ) (q : DatL K G S vs ds) (hp : H p = none) : Q (.ref p) (upd H p (.lst vs)) := by
  rcases hr with rfl | rfl
  · exact k.lst h q hp
  · exact k.lstO h q hp
noncomputable def OpD (K : PySem.W.Frag) (G : Cl) (rm : Mode) (t : R2) (f : D → D → Option D) : Prop := ∀ F S H μ σ ρ x y dx dy z, EnvOk K G F S H μ σ ρ → Dat K G S x dx → Dat K G S y dy → f dx dy = some z → ∀ Q : VK, RVal K G μ F S σ ρ rm z Q → t x y H Q
noncomputable def OpB (K : PySem.W.Frag) (G : Cl) (t : R2) (f : D → D → Option Bool) : Prop := ∀ F S H μ σ ρ x y dx dy b, EnvOk K G F S H μ σ ρ → Dat K G S x dx → Dat K G S y dy → f dx dy = some b → ∀ Q : VK, Q (.bl b) H → t x y H Q
noncomputable def UnD (K : PySem.W.Frag) (G : Cl) (t : V → Hp → VK → Prop) (f : D → Option D) : Prop := ∀ F S H μ σ ρ x dx z, EnvOk K G F S H μ σ ρ → Dat K G S x dx → f dx = some z → ∀ Q : VK, RVal K G μ F S σ ρ .d z Q → t x H Q
noncomputable def CallD (K : PySem.W.Frag) (G : Cl) (rm : Mode) (t : List V → Hp → VK → Prop) (f : List D → Option D) : Prop := ∀ F S H μ σ ρ vs ds z, EnvOk K G F S H μ σ ρ → DatL K G S vs ds → f ds = some z → ∀ Q : VK, RVal K G μ F S σ ρ rm z Q → t vs H Q
theorem OpD.or {rm : Mode} {t u : R2} {f g : D → D → Option D} (h1 : OpD K G rm t f) (h2 : OpD K G rm u g) : OpD K G rm (fun x y H Q => t x y H Q ∨ u x y H Q) (fun x y => match f x y with | some z => some z | none => g x y) := by
  intro F S H μ σ ρ x y dx dy z h q1 q2 e Q k
  dsimp only at e
  cases e1 : f dx dy with
  | some z' =>
    rw [e1] at e
    cases e
    exact .inl (h1 F S H μ σ ρ x y dx dy _ h q1 q2 e1 Q k)
  | none =>
    rw [e1] at e
    exact .inr (h2 F S H μ σ ρ x y dx dy _ h q1 q2 e Q k)
theorem OpB.or {t u : R2} {f g : D → D → Option Bool} (h1 : OpB K G t f) (h2 : OpB K G u g) : OpB K G (fun x y H Q => t x y H Q ∨ u x y H Q) (fun x y => match f x y with | some z => some z | none => g x y) := by
  intro F S H μ σ ρ x y dx dy z h q1 q2 e Q k
  dsimp only at e
  cases e1 : f dx dy with
  | some z' =>
    rw [e1] at e
    cases e
    exact .inl (h1 F S H μ σ ρ x y dx dy _ h q1 q2 e1 Q k)
  | none =>
    rw [e1] at e
    exact .inr (h2 F S H μ σ ρ x y dx dy _ h q1 q2 e Q k)
theorem CallD.or {rm : Mode} {t u : List V → Hp → VK → Prop} {f g : List D → Option D} (h1 : CallD K G rm t f) (h2 : CallD K G rm u g) : CallD K G rm (fun x H Q => t x H Q ∨ u x H Q) (fun x => match f x with | some z => some z | none => g x) := by
  intro F S H μ σ ρ x dx z h q1 e Q k
  dsimp only at e
  cases e1 : f dx with
  | some z' =>
    rw [e1] at e
    cases e
    exact .inl (h1 F S H μ σ ρ x dx _ h q1 e1 Q k)
  | none =>
    rw [e1] at e
    exact .inr (h2 F S H μ σ ρ x dx _ h q1 e Q k)
end
section
variable {X : Cx} {G : Cl} {E : XS} {C : SC} {μ μ' μ1 : List Mode} {r : Mode}
noncomputable def mVar (i : Nat) : ME := fun ρ => .ok (ρ.getD i .non) ρ
theorem je_var (i : Nat) {x : Str} {pos : Pos} (e : μ[i]? = some .d := by rfl) (hN : X.N[i]? = some x := by rfl) (hv : Vis X.env.scope x := by first | exact Or.inl rfl | exact Or.inr (Or.inl rfl) | exact Or.inr (Or.inr rfl)) (hd : (x == ("__debug__" : Str)) = false := by decide)
    (hcd : (x == ("__classdict__" : Str)) = false := by decide) : JE X G E .d μ (.Name x pos) (mVar i) :=
  ⟨_, pe_var hN hv hd hcd, fun F S H σ ρ h Q k => by
    obtain ⟨v, q1, q2⟩ := h.var e
    exact ⟨v, q1, k v S H (Evl.Ex.refl S) (h.push q2)⟩⟩
noncomputable def mC (d : D) : ME := fun ρ => .ok d ρ
theorem je_int {i j pos} : JE X G E .d μ (.Constant (.int i) j pos) (mC (.int i)) := ⟨_, pe_int, fun F S H σ ρ h Q k => k _ S H (Evl.Ex.refl S) (h.push (.int i))⟩
theorem je_bl {b j pos} : JE X G E .d μ (.Constant (.bool b) j pos) (mC (.bl b)) := ⟨_, pe_bl, fun F S H σ ρ h Q k => k _ S H (Evl.Ex.refl S) (h.push (.bl b))⟩
theorem je_str {x j pos} : JE X G E .d μ (.Constant (.str x) j pos) (mC (.str x)) := ⟨_, pe_str, fun F S H σ ρ h Q k => k _ S H (Evl.Ex.refl S) (h.push (.str x))⟩
theorem je_glob {x : Str} {v : V} {u : Value} {d : D} {pos : Pos} (hg : Gl X x) (hm : X.mg x = some u) (rv : RelV v u) (q : ∀ S, Dat X.K G S v d) (hd : (x == ("__debug__" : Str)) = false := by decide) : JE X G E .d μ (.Name x pos) (mC d) :=
  ⟨_, pe_glob hg hm rv hd, fun F S H σ ρ h Q k => k _ S H (Evl.Ex.refl S) (h.push (q S))⟩
noncomputable def mOp (f : D → D → Option D) (a b : ME) : ME := fun ρ => (a ρ).bind fun x ρ1 => (b ρ1).bind fun y ρ2 => RR.of (f x y) ρ2
theorem se_op {K : PySem.W.Frag} {t : R2} {f : D → D → Option D} {ta tb : TE} {a b : ME} (hd : OpD K G r t f) (s1 : SE K G E .d μ ta a) (s2 : SE K G E .d μ tb b) : SE K G E r μ (tOp t ta tb) (mOp f a b) := by
  intro F S H σ ρ h Q k
  refine s1 F S H σ ρ h _ ?_
  unfold mOp at k
  cases q : a ρ with
  | ok x ρ1 =>
    rw [q] at k
    intro v S1 H1 e1 h1
    refine s2 F S1 H1 σ ρ1 h1.tail _ ?_
    have k2 := EOk.mono e1 k
    rw [bind_ok] at k2
    cases q2 : b ρ1 with
    | ok y ρ2 =>
      rw [q2, bind_ok] at k2
      intro w S2 H2 e2 h2
      cases q3 : f x y with
      | some z =>
        rw [q3] at k2
        exact hd F S2 H2 μ σ ρ2 v w x y z h2.tail (h1.head.mono e2) h2.head q3 Q fun u S3 H3 e3 h3 => k2 u S3 H3 (e2.trans e3) h3
      | none =>
        rw [q3] at k2
        exact k2.elim
    | exc e ρ2 => rw [q2] at k2; exact k2
    | bad => rw [q2] at k2; exact k2
  | exc e ρ1 => rw [q] at k; exact k
  | bad => rw [q] at k; exact k
theorem je_op {op : Operator} {t : R2} {f : D → D → Option D} {a b : Expr} {ma mb : ME} {pos : Pos} (ho : OpR X (binaryOp op) t) (hd : OpD X.K G r t f) (ha : JE X G E .d μ a ma) (hb : JE X G E .d μ b mb) : JE X G E r μ (.BinOp a op b pos) (mOp f ma mb) := by
  obtain ⟨t1, p1, s1⟩ := ha.ex
  obtain ⟨t2, p2, s2⟩ := hb.ex
  exact ⟨_, pe_op ho p1 p2, se_op hd s1 s2⟩
noncomputable def CMulX (i j : Int) : Prop := i.natAbs.log2 + j.natAbs.log2 < 134000000
instance {i j : Int} : Decidable (CMulX i j) := by unfold CMulX; infer_instance
theorem CMulX.ok {i j : Int} (h : CMulX i j) : IntMulOk i j := by
  have b : ∀ x : Int, Builtin.Int.intBits x ≤ x.natAbs.log2 + 1 := fun x => by
    unfold Builtin.Int.intBits
    split <;> omega
  have h1 := b i
  have h2 := b j
  have h3 : i.natAbs.log2 + j.natAbs.log2 < 134000000 := h
  have e : bitsLine = 134217728 := by decide
  unfold IntMulOk
  intro z
  rw [Bool.and_eq_true] at z
  have z2 := z.2
  unfold Builtin.Int.intTooBig at z2
  have z3 := of_decide_eq_true z2
  rw [e] at z3
  omega
theorem op_mulX : OpR X (binaryOp .Mult) (rI CMulX fun i j => .int (i * j)) := opI fun _ _ _ _ _ _ _ hc q => mul_int q hc.ok
noncomputable def CDivX (i j : Int) : Prop := j ≠ 0 ∧ Builtin.divisionGoesByPylong i j = false
instance {i j : Int} : Decidable (CDivX i j) := by unfold CDivX; infer_instance
theorem op_fdivX : OpR X (binaryOp .FloorDiv) (rI CDivX fun i j => .int (i.fdiv j)) := opI fun _ _ _ _ _ _ _ hc q => floordiv_int hc.1 q (.inl hc.2)
noncomputable def fInt (g : Int → Int → Int) : D → D → Option D
  | .int i, .int j => some (.int (g i j))
  | _, _ => none
noncomputable def fIntC (c : Int → Int → Prop) [∀ i j, Decidable (c i j)] (g : Int → Int → Int) : D → D → Option D
  | .int i, .int j => if c i j then some (.int (g i j)) else none
  | _, _ => none
theorem opd_int {K : PySem.W.Frag} {g : Int → Int → Int} : OpD K G .d (rI0 fun i j => .int (g i j)) (fInt g) := by
  intro F S H μ σ ρ x y dx dy z h q1 q2 e Q k
  unfold fInt at e
  split at e
  · cases e
    cases q1
    cases q2
    exact ⟨_, _, rfl, rfl, k.dat (Evl.Ex.refl S) h (.int _)⟩
  · cases e
theorem opd_intC {K : PySem.W.Frag} {c : Int → Int → Prop} [∀ i j, Decidable (c i j)] {g : Int → Int → Int} : OpD K G .d (rI c fun i j => .int (g i j)) (fIntC c g) := by
  intro F S H μ σ ρ x y dx dy z h q1 q2 e Q k
  unfold fIntC at e
  split at e
  · split at e
    · cases e
      cases q1
      cases q2
      exact ⟨_, _, rfl, rfl, by assumption, k.dat (Evl.Ex.refl S) h (.int _)⟩
    · cases e
  · cases e
noncomputable def fStrAdd : D → D → Option D
  | .str a, .str b => if a.length + b.length ≤ sizeLine then some (.str (a ++ b)) else none
  | _, _ => none
theorem opd_str {K : PySem.W.Frag} : OpD K G .d (fun x y H Q => ∃ i j, x = .str i ∧ y = .str j ∧ i.length + j.length ≤ sizeLine ∧ Q (.str (i ++ j)) H) fStrAdd := by
  intro F S H μ σ ρ x y dx dy z h q1 q2 e Q k
  unfold fStrAdd at e
  split at e
  · split at e
    · cases e
      cases q1
      cases q2
      exact ⟨_, _, rfl, rfl, by assumption, k.dat (Evl.Ex.refl S) h (.str _)⟩
    · cases e
  · cases e
noncomputable def fTupAdd : D → D → Option D
  | .tup a, .tup b => if a.isEmpty = false ∧ b.isEmpty = false ∧ a.length + b.length ≤ sizeLine then some (.tup (a ++ b)) else none
  | _, _ => none
theorem opd_tup {K : PySem.W.Frag} : OpD K G .d (rCatT K) fTupAdd := by
  intro F S H μ σ ρ x y dx dy z h q1 q2 e Q k
  unfold fTupAdd at e
  split at e
  · rename_i da db
    split at e
    · rename_i hc
      obtain ⟨c1, c2, c3⟩ := hc
      cases e
      cases q1 with
      | tup a1 a2 =>
        cases q2 with
        | tup b1 b2 =>
          have l1 := a2.length
          have l2 := b2.length
          refine ⟨_, _, _, _, rfl, rfl, Evl.ex_t h.sh a1, Evl.ex_t h.sh b1, ?_, by omega, fun z => ?_, fun _ p hp => k.tup h (a2.append b2) hp⟩
          · intro z
            subst z
            cases a2
            simp at c1
          · subst z
            cases b2
            simp at c2
    · cases e
  · cases e
noncomputable def fLstAdd : D → D → Option D
  | .lst a, .lst b => if a.length + b.length ≤ sizeLine then some (.lst (a ++ b)) else none
  | _, _ => none
theorem opd_lst {K : PySem.W.Frag} (hr : r = .d ∨ r = .o) : OpD K G r rCat fLstAdd := by
  intro F S H μ σ ρ x y dx dy z h q1 q2 e Q k
  unfold fLstAdd at e
  split at e
  · rename_i da db
    split at e
    · cases e
      cases q1 with
      | lst a1 a2 =>
        cases q2 with
        | lst b1 b2 =>
          have l1 := a2.length
          have l2 := b2.length
          exact ⟨_, _, _, _, rfl, rfl, h.sh _ _ a1, h.sh _ _ b1, by omega, fun p hp => k.new hr h (a2.append b2) hp⟩
    · cases e
  · cases e
noncomputable def fAdd : D → D → Option D
  | .int i, .int j => some (.int (i + j))
  | .str a, .str b => fStrAdd (.str a) (.str b)
  | .tup a, .tup b => fTupAdd (.tup a) (.tup b)
  | .lst a, .lst b => fLstAdd (.lst a) (.lst b)
  | _, _ => none
noncomputable def rAddAll (K : PySem.W.Frag) : R2 := fun x y H Q => (rI0 fun i j => .int (i + j)) x y H Q ∨ (∃ i j, x = .str i ∧ y = .str j ∧ i.length + j.length ≤ sizeLine ∧ Q (.str (i ++ j)) H) ∨ rCatT K x y H Q ∨ rCat x y H Q
theorem op_addAll : OpR X (binaryOp .Add) (rAddAll X.K) := op_add.or (op_add_str.or (op_catT.or op_cat))
theorem opd_add {K : PySem.W.Frag} : OpD K G .d (rAddAll K) fAdd := by
  intro F S H μ σ ρ x y dx dy z h q1 q2 e Q k
  unfold fAdd at e
  split at e
  · exact .inl (opd_int F S H μ σ ρ x y _ _ z h q1 q2 e Q k)
  · exact .inr (.inl (opd_str F S H μ σ ρ x y _ _ z h q1 q2 e Q k))
  · exact .inr (.inr (.inl (opd_tup F S H μ σ ρ x y _ _ z h q1 q2 e Q k)))
  · exact .inr (.inr (.inr (opd_lst (.inl rfl) F S H μ σ ρ x y _ _ z h q1 q2 e Q k)))
  · cases e
theorem je_add {a b : Expr} {ma mb : ME} {pos : Pos} (ha : JE X G E .d μ a ma) (hb : JE X G E .d μ b mb) : JE X G E .d μ (.BinOp a .Add b pos) (mOp fAdd ma mb) := je_op op_addAll opd_add ha hb
theorem je_addO {a b : Expr} {ma mb : ME} {pos : Pos} (ha : JE X G E .d μ a ma) (hb : JE X G E .d μ b mb) : JE X G E .o μ (.BinOp a .Add b pos) (mOp fLstAdd ma mb) := je_op op_cat (opd_lst (.inr rfl)) ha hb
theorem je_sub {a b : Expr} {ma mb : ME} {pos : Pos} (ha : JE X G E .d μ a ma) (hb : JE X G E .d μ b mb) : JE X G E .d μ (.BinOp a .Sub b pos) (mOp (fInt (· - ·)) ma mb) := je_op op_sub opd_int ha hb
theorem je_mul {a b : Expr} {ma mb : ME} {pos : Pos} (ha : JE X G E .d μ a ma) (hb : JE X G E .d μ b mb) : JE X G E .d μ (.BinOp a .Mult b pos) (mOp (fIntC CMulX (· * ·)) ma mb) := je_op op_mulX opd_intC ha hb
theorem je_div {a b : Expr} {ma mb : ME} {pos : Pos} (ha : JE X G E .d μ a ma) (hb : JE X G E .d μ b mb) : JE X G E .d μ (.BinOp a .FloorDiv b pos) (mOp (fIntC CDivX Int.fdiv) ma mb) := je_op op_fdivX opd_intC ha hb
noncomputable def CModX (_ j : Int) : Prop := j ≠ 0
instance {i j : Int} : Decidable (CModX i j) := by unfold CModX; infer_instance
theorem je_mod {a b : Expr} {ma mb : ME} {pos : Pos} (ha : JE X G E .d μ a ma) (hb : JE X G E .d μ b mb) : JE X G E .d μ (.BinOp a .Mod b pos) (mOp (fIntC CModX Int.fmod) ma mb) := je_op (r := .d) (t := rI CModX fun i j => .int (i.fmod j)) op_modN opd_intC ha hb
instance {i j : Int} : Decidable (CPow i j) := by unfold CPow; infer_instance
noncomputable def mUn (f : D → Option D) (a : ME) : ME := fun ρ => (a ρ).bind fun x ρ1 => RR.of (f x) ρ1
theorem je_un {op : UnaryOp} {t : V → Hp → VK → Prop} {f : D → Option D} {a : Expr} {ma : ME} {pos : Pos} (ho : UnR X (unaryOp op) t) (hd : UnD X.K G t f) (ha : JE X G E .d μ a ma) : JE X G E .d μ (.UnaryOp op a pos) (mUn f ma) := by
  obtain ⟨t1, p1, s1⟩ := ha.ex
  refine ⟨_, pe_un ho p1, fun F S H σ ρ h Q k => ?_⟩
  refine s1 F S H σ ρ h _ ?_
  unfold mUn at k
  cases q : ma ρ with
  | ok x ρ1 =>
    rw [q, bind_ok] at k
    intro v S1 H1 e1 h1
    cases q3 : f x with
    | some z =>
      rw [q3] at k
      exact hd F S1 H1 μ σ ρ1 v x z h1.tail h1.head q3 Q fun u S3 H3 e3 h3 => k u S3 H3 (e1.trans e3) h3
    | none => rw [q3] at k; exact k.elim
  | exc e ρ1 => rw [q] at k; exact k
  | bad => rw [q] at k; exact k
noncomputable def fNeg : D → Option D
  | .int i => some (.int (-i))
  | _ => none
theorem je_neg {a : Expr} {ma : ME} {pos : Pos} (ha : JE X G E .d μ a ma) : JE X G E .d μ (.UnaryOp .USub a pos) (mUn fNeg ma) := je_un un_neg (fun F S H μ σ ρ x dx z h q e Q k => by
  unfold fNeg at e
  split at e
  · cases e
    cases q
    exact ⟨_, rfl, k.dat (Evl.Ex.refl S) h (.int _)⟩
  · cases e) ha
noncomputable def mCmp (f : D → D → Option Bool) (a b : ME) : ME := mOp (fun x y => (f x y).map .bl) a b
noncomputable def mCmpT (f : D → D → Option Bool) (a b : ME) : MT := fun ρ => (a ρ).bind fun x ρ1 => (b ρ1).bind fun y ρ2 => RR.of (f x y) ρ2
theorem OpB.opd {K : PySem.W.Frag} {t : R2} {f : D → D → Option Bool} (h : OpB K G t f) : OpD K G .d t (fun x y => (f x y).map .bl) := by
  intro F S H μ σ ρ x y dx dy z e q1 q2 q3 Q k
  dsimp only at q3
  cases q : f dx dy with
  | some b =>
    rw [q] at q3
    cases q3
    exact h F S H μ σ ρ x y dx dy b e q1 q2 q Q (k.dat (Evl.Ex.refl S) e (.bl b))
  | none => rw [q] at q3; cases q3
theorem je_cmp {op : CmpOp} {t : R2} {f : D → D → Option Bool} {a b : Expr} {ma mb : ME} {pos : Pos} (ho : OpR X (compareOp op) t) (hd : OpB X.K G t f) (ha : JE X G E .d μ a ma) (hb : JE X G E .d μ b mb)
    (hm : behindInMarks op b = false := by first | rfl | exact nomark _) : JE X G E .d μ (.Compare a [op] [b] pos) (mCmp f ma mb) := by
  obtain ⟨t1, p1, s1⟩ := ha.ex
  obtain ⟨t2, p2, s2⟩ := hb.ex
  exact ⟨_, pe_cmpR ho p1 p2 hm, se_op hd.opd s1 s2⟩
theorem jt_cmp {op : CmpOp} {t : R2} {f : D → D → Option Bool} {a b : Expr} {ma mb : ME} {pos : Pos} (ho : OpR X (compareOp op) t) (hd : OpB X.K G t f) (ha : JE X G E .d μ a ma) (hb : JE X G E .d μ b mb)
    (hm : behindInMarks op b = false := by first | rfl | exact nomark _) : JT X G E μ (.Compare a [op] [b] pos) (mCmpT f ma mb) := by
  obtain ⟨ta, p1, s1⟩ := ha.ex
  obtain ⟨tb, p2, s2⟩ := hb.ex
  refine ⟨_, pt_cmpR ho p1 p2 hm, fun F S H σ ρ h Q k => ?_⟩
  refine s1 F S H σ ρ h _ ?_
  unfold mCmpT at k
  cases q : ma ρ with
  | ok x ρ1 =>
    rw [q] at k
    intro v S1 H1 e1 h1
    refine s2 F S1 H1 σ ρ1 h1.tail _ ?_
    have k2 := TOk.mono e1 k
    rw [bind_ok] at k2
    cases q2 : mb ρ1 with
    | ok y ρ2 =>
      rw [q2, bind_ok] at k2
      intro w S2 H2 e2 h2
      cases q3 : f x y with
      | some z =>
        rw [q3] at k2
        exact hd F S2 H2 μ σ ρ2 v w x y z h2.tail (h1.head.mono e2) h2.head q3 _ ⟨z, rfl, k2 S2 H2 e2 h2.tail⟩
      | none => rw [q3] at k2; exact k2.elim
    | exc e ρ2 => rw [q2] at k2; exact k2
    | bad => rw [q2] at k2; exact k2
  | exc e ρ1 => rw [q] at k; exact k
  | bad => rw [q] at k; exact k
noncomputable def fLt : D → D → Option Bool
  | .int i, .int j => some (decide (i < j))
  | .str a, .str b => some (decide (a.cps.toList < b.cps.toList))
  | _, _ => none
noncomputable def fGt : D → D → Option Bool
  | .int i, .int j => some (decide (j < i))
  | .str a, .str b => some (decide (b.cps.toList < a.cps.toList))
  | _, _ => none
noncomputable def fGe : D → D → Option Bool
  | .int i, .int j => some (decide (j ≤ i))
  | .str a, .str b => some (!decide (a.cps.toList < b.cps.toList))
  | _, _ => none
noncomputable def rIS (p : Int → Int → Bool) (q : Str → Str → Bool) : R2 := fun x y H Q => (rI0 fun i j => .bl (p i j)) x y H Q ∨ ∃ i j, x = .str i ∧ y = .str j ∧ Q (.bl (q i j)) H
theorem opb_lt {K : PySem.W.Frag} : OpB K G (rIS (fun i j => decide (i < j)) fun i j => decide (i.cps.toList < j.cps.toList)) fLt := by
  intro F S H μ σ ρ x y dx dy z e q1 q2 q3 Q k
  unfold fLt at q3
  split at q3 <;> cases q3 <;> cases q1 <;> cases q2
  · exact .inl ⟨_, _, rfl, rfl, k⟩
  · exact .inr ⟨_, _, rfl, rfl, k⟩
theorem opb_gt {K : PySem.W.Frag} : OpB K G (rIS (fun i j => decide (j < i)) fun i j => decide (j.cps.toList < i.cps.toList)) fGt := by
  intro F S H μ σ ρ x y dx dy z e q1 q2 q3 Q k
  unfold fGt at q3
  split at q3 <;> cases q3 <;> cases q1 <;> cases q2
  · exact .inl ⟨_, _, rfl, rfl, k⟩
  · exact .inr ⟨_, _, rfl, rfl, k⟩
theorem opb_ge {K : PySem.W.Frag} : OpB K G (rIS (fun i j => decide (j ≤ i)) fun i j => !decide (i.cps.toList < j.cps.toList)) fGe := by
  intro F S H μ σ ρ x y dx dy z e q1 q2 q3 Q k
  unfold fGe at q3
  split at q3 <;> cases q3 <;> cases q1 <;> cases q2
  · exact .inl ⟨_, _, rfl, rfl, k⟩
  · exact .inr ⟨_, _, rfl, rfl, k⟩
theorem opr_lt : OpR X (compareOp .Lt) (rIS (fun i j => decide (i < j)) fun i j => decide (i.cps.toList < j.cps.toList)) := op_lt.or op_lt_str
theorem opr_gt : OpR X (compareOp .Gt) (rIS (fun i j => decide (j < i)) fun i j => decide (j.cps.toList < i.cps.toList)) := op_gt.or op_gt_str
theorem opr_ge : OpR X (compareOp .GtE) (rIS (fun i j => decide (j ≤ i)) fun i j => !decide (i.cps.toList < j.cps.toList)) := op_ge.or op_ge_str
mutual
noncomputable def toPy : D → Option PyData
  | .non => some .none
  | .bl b => some (.bool b)
  | .int i => some (.int i)
  | .str x => some (.str x)
  | .tup ds => (toPys ds).map .tuple
  | .lst ds => (toPys ds).map .list
  | _ => none
noncomputable def toPys : List D → Option (List PyData)
  | [] => some []
  | d :: ds => match toPy d, toPys ds with
    | some p, some ps => some (p :: ps)
    | _, _ => none
end
mutual
theorem toPy_dp {K : PySem.W.Frag} {S : Hp} : ∀ {v : V} {d : D} {p : PyData}, Dat K G S v d → toPy d = some p → Dp K S v p
  | _, _, _, .non, e => by simp only [toPy, Option.some.injEq] at e; subst e; exact .non
  | _, _, _, .bl b, e => by simp only [toPy, Option.some.injEq] at e; subst e; exact .bl b
  | _, _, _, .int i, e => by simp only [toPy, Option.some.injEq] at e; subst e; exact .int i
  | _, _, _, .str x, e => by simp only [toPy, Option.some.injEq] at e; subst e; exact .str x
  | _, _, _, .tup h1 h2, e => by
    simp only [toPy, Option.map_eq_some_iff] at e
    obtain ⟨ps, e1, rfl⟩ := e
    exact .tup h1 (toPys_dp h2 e1)
  | _, _, _, .lst h1 h2, e => by
    simp only [toPy, Option.map_eq_some_iff] at e
    obtain ⟨ps, e1, rfl⟩ := e
    exact .lst (Or.inl (Or.inl h1)) (toPys_dp h2 e1)
  | _, _, _, .scr _, e => by simp [toPy] at e
  | _, _, _, .dK _ _ _, e => by simp [toPy] at e
  | _, _, _, .dT _ _ _, e => by simp [toPy] at e
  | _, _, _, .ins _ _ _, e => by simp [toPy] at e
theorem toPys_dp {K : PySem.W.Frag} {S : Hp} : ∀ {vs : List V} {ds : List D} {ps : List PyData}, DatL K G S vs ds → toPys ds = some ps → DpAll K S vs ps
  | _, _, _, .nil, e => by simp only [toPys, Option.some.injEq] at e; subst e; exact .nil
  | _, _, _, .cons (d := d) (ds := ds) h t, e => by
    simp only [toPys] at e
    cases q1 : toPy d with
    | none => rw [q1] at e; cases e
    | some p =>
      cases q2 : toPys ds with
      | none => rw [q1, q2] at e; cases e
      | some ps =>
        rw [q1, q2] at e
        simp only [Option.some.injEq] at e
        subst e
        exact .cons (toPy_dp h q1) (toPys_dp t q2)
end
mutual
theorem dp_mono {K : PySem.W.Frag} {S H : Hp} (e : Ex S H) : ∀ {v : V} {p : PyData}, Dp K S v p → Dp K H v p
  | _, _, .non => .non
  | _, _, .bl b => .bl b
  | _, _, .int b => .int b
  | _, _, .str b => .str b
  | _, _, .lst h t => .lst (Evl.ex_l e h) (dps_mono e t)
  | _, _, .tup h t => .tup (Evl.ex_t e h) (dps_mono e t)
theorem dps_mono {K : PySem.W.Frag} {S H : Hp} (e : Ex S H) : ∀ {v : List V} {p : List PyData}, DpAll K S v p → DpAll K H v p
  | _, _, .nil => .nil
  | _, _, .cons h t => .cons (dp_mono e h) (dps_mono e t)
end
noncomputable def fEqD (a b : D) : Option Bool := match toPy a, toPy b with
  | some p, some q => if SeqAt.shaped p = true ∧ SeqAt.shaped q = true then some (PyData.eqv p q) else none
  | _, _ => none
noncomputable def fEq : D → D → Option Bool
  | .int i, .int j => some (decide (i = j))
  | .str a, .str b => some (decide (a = b))
  | .bl a, .bl b => some (decide (a = b))
  | a, b => fEqD a b
noncomputable def fNe (a b : D) : Option Bool := (fEq a b).map (!·)
noncomputable def rEqAll (K : PySem.W.Frag) : R2 := fun x y H Q => rEq x y H Q ∨ rEqD K x y H Q
noncomputable def rNeAll (K : PySem.W.Frag) : R2 := fun x y H Q => rNe x y H Q ∨ rNeD K x y H Q
theorem opb_eq {K : PySem.W.Frag} : OpB K G (rEqAll K) fEq := by
  intro F S H μ σ ρ x y dx dy z e q1 q2 q3 Q k
  unfold fEq at q3
  split at q3
  · cases q3
    cases q1
    cases q2
    refine .inl ⟨rfl, ?_⟩
    simpa using k
  · cases q3
    cases q1
    cases q2
    refine .inl ⟨rfl, ?_⟩
    simpa using k
  · cases q3
    cases q1
    cases q2
    refine .inl ⟨rfl, ?_⟩
    simpa using k
  · unfold fEqD at q3
    split at q3
    · rename_i p q e1 e2
      split at q3
      · rename_i hc
        cases q3
        exact .inr ⟨p, q, dp_mono e.sh (toPy_dp q1 e1), dp_mono e.sh (toPy_dp q2 e2), hc.1, hc.2, k⟩
      · cases q3
    · cases q3
theorem opb_ne {K : PySem.W.Frag} : OpB K G (rNeAll K) fNe := by
  intro F S H μ σ ρ x y dx dy z e q1 q2 q3 Q k
  unfold fNe fEq at q3
  split at q3
  · cases q3
    cases q1
    cases q2
    refine .inl ⟨rfl, ?_⟩
    simpa using k
  · cases q3
    cases q1
    cases q2
    refine .inl ⟨rfl, ?_⟩
    simpa using k
  · cases q3
    cases q1
    cases q2
    refine .inl ⟨rfl, ?_⟩
    simpa using k
  · unfold fEqD at q3
    split at q3
    · rename_i p q e1 e2
      split at q3
      · rename_i hc
        cases q3
        exact .inr ⟨p, q, dp_mono e.sh (toPy_dp q1 e1), dp_mono e.sh (toPy_dp q2 e2), hc.1, hc.2, k⟩
      · cases q3
    · cases q3
theorem opr_eq (hu : X.A.units + 64 < cLine) : OpR X (compareOp .Eq) (rEqAll X.K) := op_eq.or (op_eqD hu)
theorem opr_ne (hu : X.A.units + 64 < cLine) : OpR X (compareOp .NotEq) (rNeAll X.K) := op_ne.or (op_neD hu)
end
end MR
namespace MR
open PySem L2 PyProof.Rows
section
variable {X : Cx} {G : Cl} {E : XS} {C : SC} {μ μ' μ1 : List Mode} {r : Mode}
theorem jw_pt {e : Expr} {m : MT} (h : JW X G E μ e m) : JT X G E μ e m := let ⟨t, p, s⟩ := h.ex; ⟨t, p.pt, s⟩
theorem jw_and1 {a : Expr} {m : MT} {pos : Pos} (h : JT X G E μ a m) : JW X G E μ (.BoolOp .And [a] pos) m := let ⟨t, p, s⟩ := h.ex; ⟨t, pw_and1 p, s⟩
theorem jw_or1 {a : Expr} {m : MT} {pos : Pos} (h : JT X G E μ a m) : JW X G E μ (.BoolOp .Or [a] pos) m := let ⟨t, p, s⟩ := h.ex; ⟨t, pw_or1 p, s⟩
noncomputable def mAnd (a b : MT) : MT := fun ρ => (a ρ).bind fun x ρ1 => if x = true then b ρ1 else .ok false ρ1
noncomputable def mOr (a b : MT) : MT := fun ρ => (a ρ).bind fun x ρ1 => if x = true then .ok true ρ1 else b ρ1
noncomputable def mNot (a : MT) : MT := fun ρ => (a ρ).bind fun x ρ1 => .ok (!x) ρ1
theorem jw_and {a b : Expr} {rest : List Expr} {ma mb : MT} {pos : Pos} (ha : JT X G E μ a ma) (hb : JW X G E μ (.BoolOp .And (b :: rest) pos) mb) : JW X G E μ (.BoolOp .And (a :: b :: rest) pos) (mAnd ma mb) := by
  obtain ⟨t1, p1, s1⟩ := ha.ex
  obtain ⟨t2, p2, s2⟩ := hb.ex
  refine ⟨_, pw_and p1 p2, fun F S H σ ρ h Q k => s1 F S H σ ρ h _ ?_⟩
  unfold mAnd at k
  cases q : ma ρ with
  | ok x ρ1 =>
    rw [q, bind_ok] at k
    intro S1 H1 e1 h1
    cases x with
    | true =>
      rw [if_pos rfl] at k ⊢
      exact s2 F S1 H1 σ ρ1 h1 Q (TOk.mono e1 k)
    | false =>
      rw [if_neg Bool.false_ne_true] at k ⊢
      exact k S1 H1 e1 h1
  | exc e ρ1 => rw [q] at k; exact k
  | bad => rw [q] at k; exact k
theorem jw_or {a b : Expr} {rest : List Expr} {ma mb : MT} {pos : Pos} (ha : JT X G E μ a ma) (hb : JW X G E μ (.BoolOp .Or (b :: rest) pos) mb) : JW X G E μ (.BoolOp .Or (a :: b :: rest) pos) (mOr ma mb) := by
  obtain ⟨t1, p1, s1⟩ := ha.ex
  obtain ⟨t2, p2, s2⟩ := hb.ex
  refine ⟨_, pw_or p1 p2, fun F S H σ ρ h Q k => s1 F S H σ ρ h _ ?_⟩
  unfold mOr at k
  cases q : ma ρ with
  | ok x ρ1 =>
    rw [q, bind_ok] at k
    intro S1 H1 e1 h1
    cases x with
    | true =>
      rw [if_pos rfl] at k ⊢
      exact k S1 H1 e1 h1
    | false =>
      rw [if_neg Bool.false_ne_true] at k ⊢
      exact s2 F S1 H1 σ ρ1 h1 Q (TOk.mono e1 k)
  | exc e ρ1 => rw [q] at k; exact k
  | bad => rw [q] at k; exact k
theorem jt_not {a : Expr} {ma : MT} {pos : Pos} (ha : JT X G E μ a ma) : JT X G E μ (.UnaryOp .Not a pos) (mNot ma) := by
  obtain ⟨t1, p1, s1⟩ := ha.ex
  refine ⟨_, pt_not p1, fun F S H σ ρ h Q k => s1 F S H σ ρ h _ ?_⟩
  unfold mNot at k
  cases q : ma ρ with
  | ok x ρ1 => rw [q, bind_ok] at k; exact k
  | exc e ρ1 => rw [q] at k; exact k
  | bad => rw [q] at k; exact k
noncomputable def truth : D → Option Bool
  | .non => some false
  | .bl b => some b
  | .int i => some (i != 0)
  | .str s => if s.length ≤ sizeLine then some ((s.length : Int) != 0) else none
  | .lst ds => some (!ds.isEmpty)
  | .tup ds => some (!ds.isEmpty)
  | .scr ds => some (!ds.isEmpty)
  | _ => none
theorem truth_ok {K : PySem.W.Frag} {S H : Hp} (e : Ex S H) {v : V} {d : D} {b : Bool} (h : Dat K G S v d) (q : truth d = some b) : TruV K v H b := by
  have emp : ∀ {vs : List V} {ds : List D}, DatL K G S vs ds → vs.isEmpty = ds.isEmpty := fun h => by cases h <;> rfl
  cases h with
  | non => cases q; rfl
  | bl b => cases q; rfl
  | int i => cases q; rfl
  | str s =>
    have q' : (if s.length ≤ sizeLine then some ((s.length : Int) != 0) else none) = some b := q
    split at q'
    · cases q'
      exact ⟨by assumption, rfl⟩
    · cases q'
  | lst h1 h2 => cases q; exact .inl ⟨_, .inl (.inl (e _ _ h1)), by rw [emp h2]⟩
  | tup h1 h2 => cases q; exact .inr (.inl ⟨_, Evl.ex_t e h1, by rw [emp h2]⟩)
  | scr h1 => cases q; exact .inl ⟨_, Evl.ex_l e h1, by rw [List.isEmpty_map]⟩
  | dK _ _ _ => cases q
  | dT _ _ _ => cases q
  | ins _ _ _ => cases q
noncomputable def mTr (a : ME) : MT := fun ρ => (a ρ).bind fun x ρ1 => RR.of (truth x) ρ1
theorem jt_tr {a : Expr} {ma : ME} (ha : JE X G E .d μ a ma) (he : ∀ whole, isTrue a X.env whole = (do let v ← whole; standAt a.pos; holding [v] (truthy v)) := by intro _; rfl) : JT X G E μ a (mTr ma) := by
  obtain ⟨t1, p1, s1⟩ := ha.ex
  refine ⟨_, pt_truth p1 he, fun F S H σ ρ h Q k => s1 F S H σ ρ h _ ?_⟩
  unfold mTr at k
  cases q : ma ρ with
  | ok x ρ1 =>
    rw [q, bind_ok] at k
    cases q2 : truth x with
    | some b =>
      rw [q2] at k
      exact fun v S1 H1 e1 h1 => ⟨b, truth_ok h1.sh h1.head q2, k S1 H1 e1 h1.tail⟩
    | none => rw [q2] at k; exact k.elim
  | exc e ρ1 => rw [q] at k; exact k
  | bad => rw [q] at k; exact k
noncomputable def mAndV (a b : ME) : ME := fun ρ => (a ρ).bind fun x ρ1 => match x with
  | .bl true => b ρ1
  | .bl false => .ok (.bl false) ρ1
  | _ => .bad
noncomputable def fNotV : D → Option D
  | .bl b => some (.bl (!b))
  | _ => none
theorem je_one {op} {a : Expr} {m : ME} {pos : Pos} (h : JE X G E r μ a m) : JE X G E r μ (.BoolOp op [a] pos) m := let ⟨t, p, s⟩ := h.ex; ⟨t, pe_one p, s⟩
theorem je_and {a b : Expr} {rest : List Expr} {ma mb : ME} {pos : Pos} (ha : JE X G E .d μ a ma) (hb : JE X G E .d μ (.BoolOp .And (b :: rest) pos) mb) : JE X G E .d μ (.BoolOp .And (a :: b :: rest) pos) (mAndV ma mb) := by
  obtain ⟨t1, p1, s1⟩ := ha.ex
  obtain ⟨t2, p2, s2⟩ := hb.ex
  refine ⟨_, pe_and p1 p2, fun F S H σ ρ h Q k => s1 F S H σ ρ h _ ?_⟩
  unfold mAndV at k
  cases q : ma ρ with
  | ok x ρ1 =>
    rw [q, bind_ok] at k
    intro v S1 H1 e1 h1
    have hd := h1.head
    split at k
    · cases hd
      exact ⟨true, rfl, by rw [if_pos rfl]; exact s2 F S1 H1 σ ρ1 h1.tail Q (EOk.mono e1 k)⟩
    · cases hd
      exact ⟨false, rfl, by rw [if_neg Bool.false_ne_true]; exact k _ S1 H1 e1 (h1.tail.push (.bl false))⟩
    · exact k.elim
  | exc e ρ1 => rw [q] at k; exact k
  | bad => rw [q] at k; exact k
theorem je_not {a : Expr} {ma : ME} {pos : Pos} (ha : JE X G E .d μ a ma) : JE X G E .d μ (.UnaryOp .Not a pos) (mUn fNotV ma) := by
  obtain ⟨t1, p1, s1⟩ := ha.ex
  refine ⟨_, pe_not p1, fun F S H σ ρ h Q k => s1 F S H σ ρ h _ ?_⟩
  unfold mUn at k
  cases q : ma ρ with
  | ok x ρ1 =>
    rw [q, bind_ok] at k
    intro v S1 H1 e1 h1
    have hd := h1.head
    unfold fNotV at k
    split at k
    · cases hd
      exact ⟨_, rfl, k _ S1 H1 e1 (h1.tail.push (.bl _))⟩
    · exact k.elim
  | exc e ρ1 => rw [q] at k; exact k
  | bad => rw [q] at k; exact k
noncomputable def mNil : MA := fun ρ => .ok [] ρ
noncomputable def mCons (a : ME) (b : MA) : MA := fun ρ => (a ρ).bind fun x ρ1 => (b ρ1).bind fun xs ρ2 => .ok (x :: xs) ρ2
theorem ja_nil : JA X G E μ [] mNil := ⟨_, pa_nil, fun F S H σ ρ h Q k => k [] S H (Evl.Ex.refl S) h .nil⟩
theorem ja_cons {e : Expr} {es : List Expr} {a : ME} {b : MA} (ha : JE X G E .d μ e a) (hb : JA X G E μ es b) (hs : starEach (e :: es) X.env = (false, eval e X.env) :: starEach es X.env := by rfl) : JA X G E μ (e :: es) (mCons a b) := by
  obtain ⟨t1, p1, s1⟩ := ha.ex
  obtain ⟨t2, p2, s2⟩ := hb.ex
  refine ⟨_, pa_cons p1 p2 hs, fun F S H σ ρ h Q k => s1 F S H σ ρ h _ ?_⟩
  unfold mCons at k
  cases q : a ρ with
  | ok x ρ1 =>
    rw [q, bind_ok] at k
    intro v S1 H1 e1 h1
    refine s2 F S1 H1 σ ρ1 h1.tail _ ?_
    have k2 := AOk.mono e1 k
    cases q2 : b ρ1 with
    | ok xs ρ2 =>
      rw [q2, bind_ok] at k2
      exact fun vs S2 H2 e2 h2 q3 => k2 _ S2 H2 e2 h2 (.cons (h1.head.mono e2) q3)
    | exc e ρ2 => rw [q2] at k2; exact k2
    | bad => rw [q2] at k2; exact k2
  | exc e ρ1 => rw [q] at k; exact k
  | bad => rw [q] at k; exact k
noncomputable def mTup (a : MA) : ME := fun ρ => (a ρ).bind fun ds ρ1 => if ds.length ≤ 1000 then .ok (.tup ds) ρ1 else .bad
noncomputable def mLst (a : MA) : ME := fun ρ => (a ρ).bind fun ds ρ1 => if ds.length ≤ 1000 then .ok (.lst ds) ρ1 else .bad
theorem le_line {n : Nat} (h : n ≤ 1000) : n ≤ sizeLine := Nat.le_trans h (by decide)
theorem je_tup {es : List Expr} {a : MA} {k : Nat} {pos : Pos} (ha : JA X G E μ es a) : JE X G E .d μ (.Tuple es k pos) (mTup a) := by
  obtain ⟨t1, p1, s1⟩ := ha.ex
  refine ⟨_, pe_tup p1, fun F S H σ ρ h Q k => s1 F S H σ ρ h _ ?_⟩
  unfold mTup at k
  cases q : a ρ with
  | ok ds ρ1 =>
    rw [q, bind_ok] at k
    intro vs S1 H1 e1 h1 q1
    split at k
    · rename_i hl
      have := q1.length
      exact ⟨le_line (by omega), fun p hp => RVal.tup (K := X.K) (G := G) (F := F) (fun v S2 H2 e2 h2 => k v S2 H2 (e1.trans e2) h2) h1 q1 hp⟩
    · exact k.elim
  | exc e ρ1 => rw [q] at k; exact k
  | bad => rw [q] at k; exact k
theorem je_lstR {es : List Expr} {a : MA} {pos : Pos} (hr : r = .d ∨ r = .o) (ha : JA X G E μ es a) : JE X G E r μ (.List es pos) (mLst a) := by
  obtain ⟨t1, p1, s1⟩ := ha.ex
  refine ⟨_, pe_lst p1, fun F S H σ ρ h Q k => s1 F S H σ ρ h _ ?_⟩
  unfold mLst at k
  cases q : a ρ with
  | ok ds ρ1 =>
    rw [q, bind_ok] at k
    intro vs S1 H1 e1 h1 q1
    split at k
    · rename_i hl
      have := q1.length
      exact ⟨le_line (by omega), fun p hp => RVal.new (K := X.K) (G := G) (F := F) hr (fun v S2 H2 e2 h2 => k v S2 H2 (e1.trans e2) h2) h1 q1 hp⟩
    · exact k.elim
  | exc e ρ1 => rw [q] at k; exact k
  | bad => rw [q] at k; exact k
theorem je_lst {es : List Expr} {a : MA} {pos : Pos} (ha : JA X G E μ es a) : JE X G E .d μ (.List es pos) (mLst a) := je_lstR (.inl rfl) ha
theorem je_lstO {es : List Expr} {a : MA} {pos : Pos} (ha : JA X G E μ es a) : JE X G E .o μ (.List es pos) (mLst a) := je_lstR (.inr rfl) ha
noncomputable def fIx : D → D → Option D
  | .lst ds, .int i => atI ds i
  | .tup ds, .int i => atI ds i
  | .scr ns, .int i => (atI ns i).map .int
  | .str s, .int i => if s.length ≤ sizeLine then (atI s.cps.toList i).map fun c => .str ⟨#[c]⟩ else none
  | _, _ => none
theorem datL_at {K : PySem.W.Frag} {S : Hp} {vs : List V} {ds : List D} {i : Int} {d : D} (h : DatL K G S vs ds) (e : atI ds i = some d) : ∃ v, atI vs i = some v ∧ Dat K G S v d := by
  unfold atI at e ⊢
  rw [h.length]
  cases q : ixN ds.length i with
  | none => rw [q] at e; cases e
  | some j =>
    rw [q] at e
    exact h.get e
theorem opd_ix {K : PySem.W.Frag} : OpD K G .d (rIx K) fIx := by
  intro F S H μ σ ρ x y dx dy z h q1 q2 e Q k
  unfold fIx at e
  split at e
  · cases q2
    cases q1 with
    | lst a1 a2 =>
      obtain ⟨v, e1, e2⟩ := datL_at a2 e
      exact .inl ⟨_, _, _, v, rfl, rfl, .inl (.inl (h.sh _ _ a1)), e1, k.dat (Evl.Ex.refl S) h e2⟩
  · cases q2
    cases q1 with
    | tup a1 a2 =>
      obtain ⟨v, e1, e2⟩ := datL_at a2 e
      exact .inr (.inl ⟨_, _, _, v, rfl, rfl, Evl.ex_t h.sh a1, e1, k.dat (Evl.Ex.refl S) h e2⟩)
  · cases q2
    cases q1 with
    | scr a1 =>
      rename_i ns i a
      cases q : atI ns i with
      | none => rw [q] at e; cases e
      | some n =>
        rw [q] at e
        cases e
        refine .inl ⟨_, _, _, .int n, rfl, rfl, Evl.ex_l h.sh a1, ?_, k.dat (Evl.Ex.refl S) h (.int n)⟩
        unfold atI at q ⊢
        rw [List.length_map]
        cases q3 : ixN ns.length i with
        | none => rw [q3] at q; cases q
        | some j =>
          rw [q3] at q
          have q' : ns[j]? = some n := q
          show (ns.map V.int)[j]? = _
          rw [List.getElem?_map, q']
          rfl
  · split at e
    · cases q2
      cases q1
      rename_i s i hs
      cases q : atI s.cps.toList i with
      | none => rw [q] at e; cases e
      | some c =>
        rw [q] at e
        cases e
        exact .inr (.inr ⟨_, _, c, rfl, rfl, hs, q, k.dat (Evl.Ex.refl S) h (.str _)⟩)
    · cases e
  · cases e
theorem je_ix {a b : Expr} {ma mb : ME} {pos : Pos} (ha : JE X G E .d μ a ma) (hb : JE X G E .d μ b mb) (hs : PlainIx b := by intro _ _; rfl) : JE X G E .d μ (.Subscript a b pos) (mOp fIx ma mb) := by
  obtain ⟨t1, p1, s1⟩ := ha.ex
  obtain ⟨t2, p2, s2⟩ := hb.ex
  exact ⟨_, pe_ix ix_seq p1 p2 hs, se_op opd_ix s1 s2⟩
noncomputable def mIxO (i : Nat) (b : ME) : ME := fun ρ => (b ρ).bind fun y ρ1 => RR.of (match ρ1.getD i .non with | .lst ds => fIx (.lst ds) y | _ => none) ρ1
theorem je_ixO {x : Str} {i : Nat} {b : Expr} {mb : ME} {pos p2 : Pos} (hb : JE X G E .d μ b mb) (e : μ[i]? = some .o := by rfl) (hN : X.N[i]? = some x := by rfl) (hs : PlainIx b := by intro _ _; rfl)
    (hv : Vis X.env.scope x := by first | exact Or.inl rfl | exact Or.inr (Or.inl rfl) | exact Or.inr (Or.inr rfl)) (hd : (x == ("__debug__" : Str)) = false := by decide) (hcd : (x == ("__classdict__" : Str)) = false := by decide) :
    JE X G E .d μ (.Subscript (.Name x p2) b pos) (mIxO i mb) := by
  obtain ⟨t2, p2, s2⟩ := hb.ex
  refine ⟨_, pe_ix ix_list (pe_var hN hv hd hcd) p2 hs, fun F S H σ ρ h Q k => ?_⟩
  obtain ⟨p, q1, q2⟩ := h.ovar e
  refine ⟨_, q1, s2 F S H σ ρ h _ ?_⟩
  unfold mIxO at k
  cases q : mb ρ with
  | ok y ρ1 =>
    rw [q, bind_ok] at k
    intro w S1 H1 e1 h1
    obtain ⟨p', q3, q4⟩ := h1.tail.ovar e
    rw [q1] at q3
    cases q3
    generalize ρ1.getD i .non = dg at q4 k
    cases q4 with
    | lst a1 a2 =>
      rename_i vs ds
      dsimp only at k
      cases q5 : fIx (.lst ds) y with
      | none => rw [q5] at k; exact k.elim
      | some z =>
        rw [q5] at k
        have hy := h1.head
        cases y with
        | int j =>
          cases hy
          obtain ⟨v, e7, e8⟩ := datL_at (own_flat a2 rfl) (show atI ds j = some z from q5)
          exact ⟨_, _, _, v, rfl, rfl, .inl (.inl a1), e7, k v S1 H1 e1 (h1.tail.push e8)⟩
        | _ => cases q5
    | dK _ _ _ => exact k.elim
    | dT _ _ _ => exact k.elim
    | ins _ _ _ => exact k.elim
  | exc e1 ρ1 => rw [q] at k; exact k
  | bad => rw [q] at k; exact k
end
end MR
namespace MR
open PySem L2 PyProof.Rows
section
variable {X : Cx} {G : Cl} {E : XS} {C : SC} {μ μ' μ1 : List Mode} {r : Mode}
variable {K : PySem.W.Frag} {F : Fo} {S H : Hp} {σ : L2.St} {ρ : List D}
theorem EnvOk.chO {i : Nat} {p : Addr} {o : HO} {d : D} (h : EnvOk K G F S H μ σ ρ) (e : μ[i]? = some .o) (hp : σ[i]? = some (some (.ref p))) (q : Own K G S (upd H p o) p d [p]) : EnvOk K G F S (upd H p o) μ σ (ρ.set i d) := by
  obtain ⟨fp, ⟨f1, f2, f3⟩, f4, sl, th⟩ := h.fps
  obtain ⟨p', h1, h2, h3⟩ := sl i .o e
  rw [hp] at h1
  cases h1
  have hi : i < μ.length := (List.getElem?_eq_some_iff.mp e).1
  have mp : p ∈ fp i := by rw [h3]; exact List.mem_singleton.mpr rfl
  have hS : S p = none := (f1 i p mp).1
  have hF : F p = none := (f1 i p mp).2
  refine ⟨fun a u z => ?_, fun a u z => ⟨?_, (h.fk a u z).2⟩, h.ls, by simp [h.lr], fp, ⟨f1, f2, f3⟩, f4, fun j m e2 => ?_⟩
  · rw [upd_ne (ne_of_none z hS)]
    exact h.sh _ _ z
  · rw [upd_ne (ne_of_none z hF)]
    exact (h.fk a u z).1
  · by_cases hj : j = i
    · subst hj
      rw [e] at e2
      cases e2
      have : (ρ.set j d).getD j .non = d := by simp [List.getD, List.getElem?_set_self (show j < ρ.length by rw [h.lr]; exact hi)]
      rw [this]
      exact ⟨p, hp, by rw [h3]; exact q, h3⟩
    · have : (ρ.set i d).getD j .non = ρ.getD j .non := by simp [List.getD, List.getElem?_set_ne (Ne.symm hj)]
      rw [this]
      refine (sl j m e2).mono (Evl.Ex.refl S) fun a ha => upd_ne fun z => ?_
      subst z
      exact hj (f2 j i a ha mp)
noncomputable def D.nat : D → Nat
  | .int i => i.natAbs
  | _ => 0
noncomputable def mCB (f : List D → Option D) (a : MA) : ME := fun ρ => (a ρ).bind fun ds ρ1 => RR.of (f ds) ρ1
theorem se_cb {t : List V → Hp → VK → Prop} {f : List D → Option D} {ta : TA} {a : MA} (hd : CallD K G r t f) (s1 : SA K G E μ ta a) : SE K G E r μ (tCB t ta) (mCB f a) := by
  intro F S H σ ρ h Q k
  refine s1 F S H σ ρ h _ ?_
  unfold mCB at k
  cases q : a ρ with
  | ok ds ρ1 =>
    rw [q, bind_ok] at k
    intro vs S1 H1 e1 h1 q1
    cases q2 : f ds with
    | none => rw [q2] at k; exact k.elim
    | some z =>
      rw [q2] at k
      exact hd F S1 H1 μ σ ρ1 vs ds z h1 q1 q2 Q fun v S2 H2 e2 h2 => k v S2 H2 (e1.trans e2) h2
  | exc e ρ1 => rw [q] at k; exact k
  | bad => rw [q] at k; exact k
theorem je_cb {id : String} {t : List V → Hp → VK → Prop} {f : List D → Option D} {x : Str} {e : Expr} {es : List Expr} {a : MA} {p pos : Pos} (hc : CallR X (.builtin id) t) (hd : CallD X.K G r t f) (hm : X.mg x = none) (ha : JA X G E μ (e :: es) a)
    (hg : Gl X x := by rfl) (hv : bootBuiltins x = some (.builtin id) := by decide +kernel) (hn : x ≠ "__name__" := by decide) (hdb : (x == ("__debug__" : Str)) = false := by decide) (he : starEach (e :: es) X.env = (false, eval e X.env) :: starEach es X.env := by rfl) (hpl : (backTo pos (starEach es X.env)).any (·.1) = false := by rfl) :
    JE X G E r μ (.Call (.Name x p) (e :: es) [] pos) (mCB f a) := by
  obtain ⟨t1, p1, s1⟩ := ha.ex
  exact ⟨_, pe_callB hc hg hm hv p1 hn hdb he hpl, se_cb hd s1⟩
theorem je_ct {T : String} {t : List V → Hp → VK → Prop} {f : List D → Option D} {x : Str} {e : Expr} {es : List Expr} {a : MA} {p pos : Pos} (hc : CallR X (.type T) t) (hd : CallD X.K G r t f) (hm : X.mg x = none) (ha : JA X G E μ (e :: es) a)
    (hg : Gl X x := by rfl) (hv : bootBuiltins x = some (.type T) := by decide +kernel) (hn : x ≠ "__name__" := by decide) (hdb : (x == ("__debug__" : Str)) = false := by decide) (he : starEach (e :: es) X.env = (false, eval e X.env) :: starEach es X.env := by rfl) (hpl : (backTo pos (starEach es X.env)).any (·.1) = false := by rfl) :
    JE X G E r μ (.Call (.Name x p) (e :: es) [] pos) (mCB f a) := by
  obtain ⟨t1, p1, s1⟩ := ha.ex
  exact ⟨_, pe_callTy hc hg hm hv p1 hn hdb he hpl, se_cb hd s1⟩
noncomputable def fLen : List D → Option D
  | [.str s] => if s.length ≤ sizeLine then some (.int s.length) else none
  | [.lst ds] => some (.int ds.length)
  | [.tup ds] => some (.int ds.length)
  | [.scr ns] => some (.int ns.length)
  | _ => none
theorem cd_len : CallD K G .d (fun xs H Q => ∃ x n, xs = [x] ∧ LenV K x H n ∧ Q (.int n) H) fLen := by
  intro F S H μ σ ρ vs ds z h q e Q k
  match ds, q, e with
  | [.str s], .cons q1 .nil, e =>
    have e' : (if s.length ≤ sizeLine then some (D.int s.length) else none) = some z := e
    split at e'
    · cases e'
      cases q1
      exact ⟨_, _, rfl, ⟨by assumption, rfl⟩, k.dat (Evl.Ex.refl S) h (.int _)⟩
    · cases e'
  | [.lst ds], .cons q1 .nil, e =>
    cases e
    cases q1 with
    | lst a1 a2 => exact ⟨_, _, rfl, .inl ⟨_, .inl (.inl (h.sh _ _ a1)), rfl⟩, by rw [a2.length]; exact k.dat (Evl.Ex.refl S) h (.int _)⟩
  | [.tup ds], .cons q1 .nil, e =>
    cases e
    cases q1 with
    | tup a1 a2 => exact ⟨_, _, rfl, .inr ⟨_, Evl.ex_t h.sh a1, rfl⟩, by rw [a2.length]; exact k.dat (Evl.Ex.refl S) h (.int _)⟩
  | [.scr ns], .cons q1 .nil, e =>
    cases e
    cases q1 with
    | scr a1 => exact ⟨_, _, rfl, .inl ⟨_, Evl.ex_l h.sh a1, rfl⟩, by rw [List.length_map]; exact k.dat (Evl.Ex.refl S) h (.int _)⟩
noncomputable def fAbs : List D → Option D
  | [.int i] => some (.int (if i < 0 then -i else i))
  | _ => none
theorem cd_abs : CallD K G .d (fun xs H Q => ∃ i, xs = [.int i] ∧ Q (.int (if i < 0 then -i else i)) H) fAbs := by
  intro F S H μ σ ρ vs ds z h q e Q k
  match ds, q, e with
  | [.int i], .cons q1 .nil, e =>
    cases e
    cases q1
    exact ⟨_, rfl, k.dat (Evl.Ex.refl S) h (.int _)⟩
noncomputable def fIntOf : List D → Option D
  | [.int i] => some (.int i)
  | [.bl b] => some (.int (if b then 1 else 0))
  | [.str s] => if s.length ≤ 640 then (PySem.intText? s).map .int else none
  | _ => none
noncomputable def rIntOf : List V → Hp → VK → Prop := fun xs H Q => ((∃ i, xs = [.int i] ∧ Q (.int i) H) ∨ ∃ k, xs = [.bl k] ∧ Q (.int (if k then 1 else 0)) H) ∨ ∃ a n, xs = [.str a] ∧ PySem.intText? a = some n ∧ a.length ≤ 640 ∧ Q (.int n) H
theorem callR_or {f : Value} {t u : List V → Hp → VK → Prop} (h : CallR X f t) (h' : CallR X f u) : CallR X f (fun xs H Q => t xs H Q ∨ u xs H Q) := by
  intro pins s σ H xs us Q I r q
  rcases q with q | q
  · exact h pins s σ H xs us Q I r q
  · exact h' pins s σ H xs us Q I r q
theorem call_intOf : CallR X (.type "int") rIntOf := callR_or call_int1 call_int_str
theorem cd_int : CallD K G .d rIntOf fIntOf := by
  intro F S H μ σ ρ vs ds z h q e Q k
  match ds, q, e with
  | [.int i], .cons q1 .nil, e =>
    cases e
    cases q1
    exact .inl (.inl ⟨_, rfl, k.dat (Evl.Ex.refl S) h (.int _)⟩)
  | [.bl i], .cons q1 .nil, e =>
    cases e
    cases q1
    exact .inl (.inr ⟨_, rfl, k.dat (Evl.Ex.refl S) h (.int _)⟩)
  | [.str s], .cons q1 .nil, e =>
    have e' : (if s.length ≤ 640 then (PySem.intText? s).map D.int else none) = some z := e
    split at e'
    · cases q2 : PySem.intText? s with
      | none => rw [q2] at e'; cases e'
      | some n =>
        rw [q2] at e'
        cases e'
        cases q1
        exact .inr ⟨_, _, rfl, q2, by assumption, k.dat (Evl.Ex.refl S) h (.int _)⟩
    · cases e'
noncomputable def fListOf : List D → Option D
  | [.lst ds] => some (.lst ds)
  | [.tup ds] => some (.lst ds)
  | _ => none
theorem cd_list (hr : r = .d ∨ r = .o) : CallD K G r (fun xs H Q => ∃ p ys, xs = [.ref p] ∧ (SqL K H p ys ∨ SqT K H p ys) ∧ ∀ l, H l = none → Q (.ref l) (upd H l (.lst ys))) fListOf := by
  intro F S H μ σ ρ vs ds z h q e Q k
  match ds, q, e with
  | [.lst ds], .cons q1 .nil, e =>
    cases e
    cases q1 with
    | lst a1 a2 => exact ⟨_, _, rfl, .inl (.inl (.inl (h.sh _ _ a1))), fun l hl => k.new hr h a2 hl⟩
  | [.tup ds], .cons q1 .nil, e =>
    cases e
    cases q1 with
    | tup a1 a2 => exact ⟨_, _, rfl, .inr (Evl.ex_t h.sh a1), fun l hl => k.new hr h a2 hl⟩
noncomputable def tyName : D → Option String
  | .non => some "NoneType"
  | .bl _ => some "bool"
  | .int _ => some "int"
  | .str _ => some "str"
  | .lst _ => some "list"
  | .scr _ => some "list"
  | .tup _ => some "tuple"
  | .dK _ => some "dict"
  | .dT _ => some "dict"
  | .ins _ _ => none
noncomputable def fIsi (T : String) (d : D) : Option D := match tyName d with
  | some n => (kitB n T).map .bl
  | none => none
theorem ty_ok (e : Ex S H) {v : V} {d : D} {n : String} (h : Dat K G S v d) (q : tyName d = some n) : TyX K H v (.type n) := by
  cases h with
  | non => cases q; exact .base .non
  | bl b => cases q; exact .base (.bl b)
  | int b => cases q; exact .base (.int b)
  | str b => cases q; exact .base (.str b)
  | lst h1 _ => cases q; exact .base (.lst (e _ _ h1))
  | tup h1 _ =>
    cases q
    rcases Evl.ex_t e h1 with (h2 | ⟨o, h2⟩) | ⟨o, its, m, h2, h3, _⟩
    · exact .base (.tup h2)
    · exact .fTuple h2
    · exact .kTuple h2 h3
  | scr h1 =>
    cases q
    rcases Evl.ex_l e h1 with (h2 | ⟨o, h2⟩) | ⟨o, its, m, h2, h3, _⟩
    · exact .base (.lst h2)
    · exact .base (.frz h2)
    · exact .kList h2 h3
  | dK h1 _ _ => cases q; exact .base (.dK (e _ _ h1))
  | dT h1 _ _ => cases q; exact .base (.dT (e _ _ h1))
  | ins _ _ _ => cases q
theorem je_isi {a : Expr} {ma : ME} {y x : Str} {T : String} {p p2 pos : Pos} (ha : JE X G E .d μ a ma) (hy : X.mg y = none) (hx : X.mg x = none) (hgy : Gl X y := by rfl) (hg : Gl X x := by rfl) (hvy : bootBuiltins y = some (.builtin "isinstance") := by decide +kernel) (hv : bootBuiltins x = some (.type T) := by decide +kernel)
    (hny : y ≠ "__name__" := by decide) (hdy : (y == ("__debug__" : Str)) = false := by decide) (hn : x ≠ "__name__" := by decide) (hdb : (x == ("__debug__" : Str)) = false := by decide)
    (h1 : starEach [a, .Name x p2] X.env = (false, eval a X.env) :: starEach [.Name x p2] X.env := by rfl) (h2 : starEach [.Name x p2] X.env = (false, eval (.Name x p2) X.env) :: starEach [] X.env := by rfl) (hpl : (backTo pos (starEach [.Name x p2] X.env)).any (·.1) = false := by rfl) :
    JE X G E .d μ (.Call (.Name y p) [a, .Name x p2] [] pos) (mUn (fIsi T) ma) := by
  obtain ⟨t1, p1, s1⟩ := ha.ex
  refine ⟨_, pe_callB call_isi hgy hy hvy (pa_cons p1 (pa_cons (pe_bltn (v := .ty T) hg hx hv rfl hn hdb) pa_nil h2) h1) hny hdy h1 hpl, fun F S H σ ρ h Q k => s1 F S H σ ρ h _ ?_⟩
  unfold mUn at k
  cases q : ma ρ with
  | ok x ρ1 =>
    rw [q, bind_ok] at k
    intro v S1 H1 e1 h1
    unfold fIsi at k
    cases q2 : tyName x with
    | none => rw [q2] at k; exact k.elim
    | some n =>
      rw [q2] at k
      dsimp only at k
      cases q3 : kitB n T with
      | none => rw [q3] at k; exact k.elim
      | some b =>
        rw [q3] at k
        exact ⟨_, _, _, _, b, rfl, .ty T, ty_ok h1.sh h1.head q2, kit_ty q3, k _ S1 H1 e1 (h1.tail.push (.bl b))⟩
  | exc e ρ1 => rw [q] at k; exact k
  | bad => rw [q] at k; exact k
noncomputable def spP (K : PySem.W.Frag) (G : Cl) (n : Nat) (rm : Mode) (f : MP) : Sp := fun vs H Q E => ∃ (F : Fo) (S : Hp) (ds : List D), Ex S H ∧ (∀ a o, F a = some o → H a = some o ∧ S a = none) ∧ DatL K G S vs ds ∧ ds.length = n ∧
  match f ds with
  | .ok d => ∀ v S' H', Ex S S' → EnvOk K G F S' H' [rm] [some v] [d] → Q v H'
  | .exc e => ∀ c dct S' H', Ex S S' → EnvOk K G F S' H' [] [] [] → ErrAt G e c dct S' → E c dct H'
  | .bad => False
theorem spP_len {n : Nat} {rm : Mode} {f : MP} {vs : List V} {H : Hp} {Q : VK} {E : XK} (h : spP K G n rm f vs H Q E) : vs.length = n := by
  obtain ⟨F, S, ds, _, _, q, l, _⟩ := h
  rw [q.length, l]
noncomputable def mCall (f : MP) (dd : List D) (a : MA) : ME := fun ρ => (a ρ).bind fun ds ρ1 => match f (ds ++ dd) with
  | .ok d => .ok d ρ1
  | .exc e => .exc e ρ1
  | .bad => .bad
theorem se_call {n : Nat} {f : MP} {dvs : List V} {dd : List D} {ta : TA} {a : MA} (hp : pinless r = true) (hn : ∀ ρ ds ρ1, a ρ = .ok ds ρ1 → (ds ++ dd).length = n) (hdd : ∀ S, DatL K G S dvs dd) (s1 : SA K G E μ ta a) : SE K G E r μ (tCallSD (spP K G n r f) dvs E ta) (mCall f dd a) := by
  intro F S H σ ρ h Q k
  refine s1 F S H σ ρ h _ ?_
  unfold mCall at k
  cases q : a ρ with
  | ok ds ρ1 =>
    rw [q, bind_ok] at k
    intro vs S1 H1 e1 h1 q1
    refine ⟨⟨rest H1 S1, fun _ => 0, rest_nt⟩, S1, ds ++ dd, h1.sh, fun _ _ z => rest_some z, q1.append (hdd S1), hn ρ ds ρ1 q, ?_⟩
    cases q2 : f (ds ++ dd) with
    | ok d =>
      rw [q2] at k
      exact fun v S2 H2 e2 h2 => k v S2 H2 (e1.trans e2) (h1.back e2 hp h2)
    | exc e =>
      rw [q2] at k
      exact fun c dct S2 H2 e2 h2 z => k c dct S2 H2 (e1.trans e2) (h1.back0 e2 h2) z
    | bad => rw [q2] at k; exact k
  | exc e ρ1 => rw [q] at k; exact k
  | bad => rw [q] at k; exact k
noncomputable def ALen (a : MA) (n : Nat) : Prop := ∀ ρ ds ρ1, a ρ = .ok ds ρ1 → ds.length = n
theorem alen_nil : ALen mNil 0 := fun ρ ds ρ1 h => by cases h; rfl
theorem alen_cons {a : ME} {b : MA} {n : Nat} (h : ALen b n) : ALen (mCons a b) (n + 1) := fun ρ ds ρ1 e => by
  unfold mCons at e
  cases q : a ρ with
  | ok x ρ2 =>
    rw [q, bind_ok] at e
    cases q2 : b ρ2 with
    | ok xs ρ3 =>
      rw [q2, bind_ok] at e
      cases e
      simp [h ρ2 xs _ q2]
    | exc _ _ => rw [q2] at e; cases e
    | bad => rw [q2] at e; cases e
  | exc _ _ => rw [q] at e; cases e
  | bad => rw [q] at e; cases e
structure DefO (P : Program) (w : World) (K : PySem.W.Frag) (mg : Str → Option Value) (base : Heap) (G : Cl) (x : Str) (n : Nat) (rm : Mode) (f : MP) (k : Nat) (dd : List D) : Prop where
  ex : ∃ (a : Addr) (fd : FuncData) (ps : List Str) (ds : List Value) (dvs : List V), FnOk P w K mg base (L2.CX P w) k a fd ps (spP K G n rm f) ∧ mg x = some (.ref a) ∧ PySem.W.keepIn K (.ref a) = true ∧ Binds K fd ps ds ∧ Vals dvs ds ∧ ∀ S, DatL K G S dvs dd
theorem je_call {x : Str} {n k m : Nat} {f : MP} {dd : List D} {e : Expr} {es : List Expr} {a : MA} {p pos : Pos} (F : DefO X.prog X.w X.K X.mg X.base G x n r f k dd) (hr : Room k X.A) (tk : Takes X (fun c d σ H => E σ c d H)) (ha : JA X G E μ (e :: es) a) (hl : ALen a m) (hn : m + dd.length = n := by rfl) (hpr : pinless r = true := by rfl)
    (hg : Gl X x := by rfl) (hdb : (x == ("__debug__" : Str)) = false := by decide) (he : starEach (e :: es) X.env = (false, eval e X.env) :: starEach es X.env := by rfl) (hpl : (backTo pos (starEach es X.env)).any (·.1) = false := by rfl) :
    JE X G E r μ (.Call (.Name x p) (e :: es) [] pos) (mCall f dd a) := by
  obtain ⟨t1, p1, s1⟩ := ha.ex
  obtain ⟨A, fd, ps, ds, dvs, h1, h2, h3, h4, h5, h6⟩ := F.ex
  exact ⟨_, pe_callSD h1 hr hg h2 h3 h4 h5 (fun σ => passAt tk σ) p1 hdb he hpl, se_call hpr (fun ρ ds ρ1 q => by rw [List.length_append, hl ρ ds ρ1 q, hn]) h6 s1⟩
noncomputable def mDef (rm : Mode) (k : Nat) (b : MS) : MP := fun ds => match b (ds ++ List.replicate k .non) with
  | .ret d _ => .ok d
  | .nx _ => match rm with
    | .d => .ok .non
    | _ => .bad
  | .exc e _ => .exc e
  | _ => .bad
theorem EnvOk.alone {s : Option V} {d : D} (h : EnvOk K G F S H (r :: μ) (s :: σ) (d :: ρ)) : EnvOk K G F S H [r] [s] [d] := by
  obtain ⟨sh, fk, ls, lr, fp, ⟨f1, f2, f3⟩, f4, sl⟩ := h
  refine ⟨sh, fk, rfl, rfl, fun i => match i with | 0 => fp 0 | _ + 1 => [], ⟨?_, ?_, ?_⟩, ?_, ?_⟩
  · intro i a ha
    cases i with
    | zero => exact f1 0 a ha
    | succ i => cases ha
  · intro i j a ha hb
    cases i with
    | zero =>
      cases j with
      | zero => rfl
      | succ j => cases hb
    | succ i => cases ha
  · intro i
    cases i with
    | zero => exact f3 0
    | succ i => exact List.nodup_nil
  · intro i hi
    cases i with
    | zero => simp at hi
    | succ i => rfl
  · intro i m e
    cases i with
    | zero =>
      have z := sl 0 m (by simpa using e)
      simpa using z
    | succ i => simp at e
theorem EnvOk.nothing (h : EnvOk K G F S H μ σ ρ) : EnvOk K G F S H [] [] [] :=
  ⟨h.sh, h.fk, rfl, rfl, fun _ => [], ⟨fun _ _ z => (by cases z), fun _ _ _ z => (by cases z), fun _ => List.nodup_nil⟩, fun _ _ => rfl, fun i m e => by simp at e⟩
noncomputable def scOf (E : XK) (rm : Mode) (n k : Nat) : SC := ⟨fun _ => E, rm, List.replicate (n + k) .x, List.replicate (n + k) .x, List.replicate (n + k) .x⟩
theorem nonOk (h : EnvOk K G F S H μ σ ρ) (hr : r = .d) : EnvOk K G F S H [r] [some V.non] [D.non] := by
  subst hr
  exact (h.nothing).push .non
section
variable {P : Program} {w : World} {mg : Str → Option Value} {base : Heap}
theorem fn_ok {x qual : Str} {st : Stmt} {f : Addr} {fd : FuncData} {N ps : List Str} {lv n k : Nat} {rm : Mode} {b : MS} {μe : List Mode} (F : Fun K x qual st f fd) (sc : FnScope N ps (defScope st)) (hn : ps.length = n) (hk : N.length = n + k)
    (hb : ∀ (cdv : Value) (A : Around) (outer : List Env) (s : Shared) (H : Hp) (E : XK), Room lv (A.deeper (envOfC qual (defScope st) s.heap.objs.size f cdv)) →
      JSs (cxOf (L2.CX P w) P w K mg base N qual (defScope st) f cdv A outer s H E) G (scOf E rm n k) (List.replicate n .d ++ List.replicate k .x) μe (defBody st) b) :
    FnOk P w K mg base (L2.CX P w) (lv + 1) f fd ps (spP K G n rm (mDef rm k b)) := by
  refine F.okX sc (fun vs H Q E h => by rw [spP_len h, hn]) fun cdv A outer s H vs Q E hr h => ?_
  obtain ⟨t, p1, s1⟩ := (hb cdv A outer s H E hr).ex
  obtain ⟨F0, S, ds, sh, fk, q, l, z⟩ := h
  have hv : vs.length = n := by rw [q.length, l]
  refine ⟨t, p1, ?_⟩
  have e0 : L2.start N vs = vs.map some ++ List.replicate k none := by
    unfold L2.start
    rw [show N.length - vs.length = k by omega]
  rw [e0]
  have en := EnvOk.args (G := G) sh fk q k
  rw [l] at en
  refine s1 F0 S H _ _ en _ ?_
  unfold mDef at z
  cases q2 : b (ds ++ List.replicate k .non) with
  | nx ρ' =>
    rw [q2] at z
    cases rm with
    | d => exact fun σ' S' H' e' h' => z _ S' H' e' (nonOk h' rfl)
    | _ => exact z.elim
  | ret d ρ' =>
    rw [q2] at z
    exact fun v μ1 σ' S' H' _ e' h' => z v S' H' e' h'.alone
  | exc e ρ' =>
    rw [q2] at z
    exact fun μ1 σ' c dct S' H' _ e' h' z' => z c dct S' H' e' h'.nothing z'
  | brk ρ' => rw [q2] at z; exact z.elim
  | cnt ρ' => rw [q2] at z; exact z.elim
  | bad => rw [q2] at z; exact z.elim
end
theorem tk_of {P : Program} {w : World} {mg : Str → Option Value} {base : Heap} {N : List Str} {qual : Str} {scope : Scope} {f : Addr} {cd : Value} {A : Around} {outer : List Env} {s : Shared} {H : Hp} {E : XK} :
    Takes (cxOf (L2.CX P w) P w K mg base N qual scope f cd A outer s H E) (fun c d _ H => E c d H) := takes_of rfl rfl rfl rfl
theorem po_of {P : Program} {w : World} {mg : Str → Option Value} {base : Heap} {N : List Str} {qual : Str} {scope : Scope} {f : Addr} {cd : Value} {A : Around} {outer : List Env} {s : Shared} {H : Hp} {E : XK} :
    PassesOwn (model (cxOf (L2.CX P w) P w K mg base N qual scope f cd A outer s H E).prog (cxOf (L2.CX P w) P w K mg base N qual scope f cd A outer s H E).w) (cxOf (L2.CX P w) P w K mg base N qual scope f cd A outer s H E).A (cxOf (L2.CX P w) P w K mg base N qual scope f cd A outer s H E).env (cxOf (L2.CX P w) P w K mg base N qual scope f cd A outer s H E).xe := passes_of rfl
structure GlobD (K : PySem.W.Frag) (mg : Str → Option Value) (G : Cl) (x : Str) (d : D) : Prop where
  ex : ∃ v u, mg x = some u ∧ RelV v u ∧ ∀ S, Dat K G S v d
theorem je_globD {x : Str} {d : D} {pos : Pos} (q : GlobD X.K X.mg G x d) (hg : Gl X x := by rfl) (hd : (x == ("__debug__" : Str)) = false := by decide) : JE X G E .d μ (.Name x pos) (mC d) := by
  obtain ⟨v, u, h1, h2, h3⟩ := q.ex
  exact je_glob hg h1 h2 h3 hd
structure ExcO (K : PySem.W.Frag) (mg : Str → Option Value) (G : Cl) (x : Str) (e : Err) : Prop where
  ex : ∃ C, mg x = some (.ref C) ∧ G.eA e.tag = C ∧ PySem.W.excIn K C [.type "ValueError", .type "Exception", .type "BaseException", .type "object"] "ValueError.__new__" = true ∧ PySem.W.keepIn K (.ref C) = true ∧
    PySem.W.subIn K (.ref C) (.type "BaseException") = some true ∧ PySem.W.typeIn K (.ref C) = some (.type "type")
  nl : ∀ n, e ≠ .line n
noncomputable def mRaise (e : Err) (a : MA) : MS := fun ρ => match a ρ with
  | .ok _ ρ1 => .exc e ρ1
  | .exc e ρ1 => .exc e ρ1
  | .bad => .bad
theorem js_raise {x : Str} {er : Err} {e : Expr} {es : List Expr} {a : MA} {m : Nat} {p pos pos' : Pos} (Q : ExcO X.K X.mg G x er) (tk : Takes X (fun c d σ H => C.E σ c d H)) (ha : JA X G C.E μ (e :: es) a) (hl : ALen a m) (w : ModesLe C.μx μ = true := by rfl) (hm : m ≤ 1000 := by decide)
    (hc : X.calm = true := by rfl) (hg : Gl X x := by rfl) (hdb : (x == ("__debug__" : Str)) = false := by decide) (he : starEach (e :: es) X.env = (false, eval e X.env) :: starEach es X.env := by rfl) (hpl : (backTo pos (starEach es X.env)).any (·.1) = false := by rfl) :
    JS X G C μ μ' (.Raise (some (.Call (.Name x p) (e :: es) [] pos)) none pos') (mRaise er a) := by
  obtain ⟨t1, p1, s1⟩ := ha.ex
  obtain ⟨A, g, rfl, q, kC, b, t⟩ := Q.ex
  refine ⟨_, ps_raise hc tk (pmk_ownA PySem.F.excBase_ValueError q g kC (raises_own b t) hg p1 hdb he hpl), fun F S H σ ρ h D k => s1 F S H σ ρ h _ ?_⟩
  unfold mRaise at k
  cases q : a ρ with
  | ok ds ρ1 =>
    rw [q] at k
    intro vs S1 H1 e1 h1 q1
    refine ⟨le_line (by rw [q1.length, hl ρ ds ρ1 q]; exact hm), k μ σ _ none S1 H1 w e1 h1 ⟨rfl, ?_⟩⟩
    cases er with
    | line n => exact absurd rfl (Q.nl n)
    | _ => rfl
  | exc e ρ1 => rw [q] at k; exact xout w k
  | bad => rw [q] at k; exact k
noncomputable def mLenO (i : Nat) : ME := fun ρ => match ρ.getD i .non with
  | .lst ds => .ok (.int ds.length) ρ
  | _ => .bad
theorem je_lenO {x y : Str} {i : Nat} {p p2 pos : Pos} (hm : X.mg y = none) (e : μ[i]? = some .o := by rfl) (hg : Gl X y := by rfl) (hv : bootBuiltins y = some (.builtin "len") := by decide +kernel) (hn : y ≠ "__name__" := by decide) (hdy : (y == ("__debug__" : Str)) = false := by decide)
    (hN : X.N[i]? = some x := by rfl) (hx : Vis X.env.scope x := by first | exact Or.inl rfl | exact Or.inr (Or.inl rfl) | exact Or.inr (Or.inr rfl)) (hd : (x == ("__debug__" : Str)) = false := by decide) (hcd : (x == ("__classdict__" : Str)) = false := by decide)
    (he : starEach [.Name x p2] X.env = (false, eval (.Name x p2) X.env) :: starEach [] X.env := by rfl) (hpl : (backTo pos (starEach [] X.env)).any (·.1) = false := by rfl) :
    JE X G E .d μ (.Call (.Name y p) [.Name x p2] [] pos) (mLenO i) := by
  refine ⟨_, pe_callB call_len_seq hg hm hv (pa_cons (pe_var hN hx hd hcd) pa_nil he) hn hdy he hpl, fun F S H σ ρ h Q k => ?_⟩
  obtain ⟨p, q1, q2⟩ := h.ovar e
  unfold mLenO at k
  generalize ρ.getD i .non = dg at q2 k
  refine ⟨_, q1, ?_⟩
  cases q2 with
  | lst a1 a2 => exact ⟨p, _, rfl, .inl (.inl (.inl a1)), by rw [a2.length]; exact k _ S H (Evl.Ex.refl S) (h.push (.int _))⟩
  | dK _ _ _ => exact k.elim
  | dT _ _ _ => exact k.elim
  | ins _ _ _ => exact k.elim
noncomputable def lstAt (i : Nat) (ρ : List D) : Option (List D) := match ρ.getD i .non with
  | .lst ds => some ds
  | _ => none
theorem lstAt_some {i : Nat} {ρ : List D} {ds : List D} (h : lstAt i ρ = some ds) : ρ.getD i .non = .lst ds := by
  unfold lstAt at h
  split at h
  · cases h
    assumption
  · cases h
theorem EnvOk.olst {i : Nat} {p : Addr} {ds : List D} (h : EnvOk K G F S H μ σ ρ) (e : μ[i]? = some .o) (hp : σ[i]? = some (some (.ref p))) (hd : lstAt i ρ = some ds) : ∃ vs, H p = some (.lst vs) ∧ DatL K G S vs ds := by
  obtain ⟨p', q3, q4⟩ := h.ovar e
  rw [hp] at q3
  cases q3
  rw [lstAt_some hd] at q4
  cases q4 with
  | lst a1 a2 => exact ⟨_, a1, own_flat a2 rfl⟩
noncomputable def mApp (i : Nat) (a : ME) : MS := fun ρ => match lstAt i ρ with
  | none => .bad
  | some _ => match a ρ with
    | .ok d ρ1 => match lstAt i ρ1 with
      | some ds => if ds.length < 1000000 then .nx (ρ1.set i (.lst (ds ++ [d]))) else .bad
      | none => .bad
    | .exc e ρ1 => .exc e ρ1
    | .bad => .bad
theorem lt_line {n : Nat} (h : n < 1000000) : n < sizeLine := Nat.lt_of_lt_of_le h (by decide)
theorem js_app {x : Str} {i : Nat} {a : Expr} {ma : ME} {p p2 p3 pos : Pos} (ha : JE X G C.E .d μ a ma) (e : μ[i]? = some .o := by rfl) (w : ModesLe C.μx μ = true := by rfl)
    (hN : X.N[i]? = some x := by rfl) (hx : Vis X.env.scope x := by first | exact Or.inl rfl | exact Or.inr (Or.inl rfl) | exact Or.inr (Or.inr rfl)) (hd : (x == ("__debug__" : Str)) = false := by decide) (hcd : (x == ("__classdict__" : Str)) = false := by decide)
    (hbase : attributeBase (.Name x p) "append" X.env (eval (.Name x p) X.env) = eval (.Name x p) X.env := by rfl)
    (hfew : ((backTo p3 (starEach [a] X.env)).all (fun x => !x.1) && (backToKw p3 (keywordEach [] X.env)).all (fun x => x.1.isSome)
      && decide (([a] : List Expr).length + ([] : List Keyword).length + (if ([] : List Keyword).isEmpty then 0 else 1) < 30)) = true := by rfl)
    (hline : (p2.endLine == p3.line) = true := by rfl)
    (he : starEach [a] X.env = (false, eval a X.env) :: starEach [] X.env := by rfl) (hpl : (backTo p3 (starEach [] X.env)).any (·.1) = false := by rfl)
    (hs : swapsWith (.Call (.Attribute (.Name x p) "append" p2) [a] [] p3) none pos.line X.env = pure false := by rfl) :
    JS X G C μ μ (.Expr (.Call (.Attribute (.Name x p) "append" p2) [a] [] p3) pos) (mApp i ma) := by
  obtain ⟨t1, p1, s1⟩ := ha.ex
  refine ⟨_, ps_expr (pe_bm PySem.F.plainAttrs_list PySem.F.slot_list_append PySem.F.type_list_append mt_append (pe_var hN hx hd hcd) (pa_cons p1 pa_nil he) hbase hfew hline he hpl) hs, fun F S H σ ρ h D k => ?_⟩
  obtain ⟨p, q1, q2⟩ := h.ovar e
  unfold mApp at k
  cases z : lstAt i ρ with
  | none => rw [z] at k; exact k.elim
  | some ds0 =>
    rw [z] at k
    dsimp only at k
    obtain ⟨vs0, z1, _⟩ := h.olst e q1 z
    refine ⟨_, q1, .inl ⟨rfl, vs0, .inl (.inl z1)⟩, s1 F S H σ ρ h _ ?_⟩
    cases q : ma ρ with
    | ok d ρ1 =>
      rw [q] at k
      intro v S1 H1 e1 h1
      dsimp only at k
      cases z2 : lstAt i ρ1 with
      | none => rw [z2] at k; exact k.elim
      | some ds =>
        rw [z2] at k
        dsimp only at k
        obtain ⟨vs, z3, z4⟩ := h1.tail.olst e q1 z2
        split at k
        · rename_i hl
          refine ⟨p, vs, v, rfl, rfl, z3, lt_line (by rw [z4.length]; exact hl), ?_⟩
          exact k σ S1 _ e1 (h1.tail.chO e q1 (.lst upd_same (OwnL.snoc h1.head z4.ownL)))
        · exact k.elim
    | exc e1 ρ1 => rw [q] at k; exact xout w k
    | bad => rw [q] at k; exact k
noncomputable def bName (i : Nat) : MB := fun d ρ => some (ρ.set i d)
theorem jg_name {i : Nat} {x : Str} {pos : Pos} (hN : X.N.Nodup) (hi : X.N[i]? = some x := by rfl) (hx : Loc X.env.scope x := by first | exact Or.inl rfl | exact Or.inr rfl) (hlt : i < μ.length := by decide) (hf : X.fn x = true ∨ X.env.scope.names.lookup x = some .local := by first | exact .inl rfl | exact .inr rfl) :
    JG X G μ (μ.set i .d) (.Name x pos) (bName i) := ⟨_, pg_name hN hi hx hf, fun F S H σ ρ v d ρ' h q e Q k => by
  cases e
  exact k _ S H (Evl.Ex.refl S) ((h.push q).store hlt)⟩
noncomputable def bNil : List D → List D → Option (List D) := fun ds ρ => match ds with
  | [] => some ρ
  | _ => none
noncomputable def bCons (a : MB) (b : List D → List D → Option (List D)) : List D → List D → Option (List D) := fun ds ρ => match ds with
  | d :: ds => match a d ρ with
    | some ρ1 => b ds ρ1
    | none => none
  | [] => none
theorem jgs_nil : JGs X G μ μ [] bNil := ⟨_, pgs_nil, fun F S H σ ρ vs ds ρ' h q e Q k => by
  unfold bNil at e
  split at e
  · cases e
    cases q
    exact ⟨rfl, k σ S H (Evl.Ex.refl S) h⟩
  · cases e⟩
theorem jgs_cons {e : Expr} {es : List Expr} {a : MB} {b : List D → List D → Option (List D)} (h1 : JG X G μ μ1 e a) (h2 : JGs X G μ1 μ' es b)
    (hs : (assignEach (e :: es) X.env).map (·.2) = assign e X.env :: (assignEach es X.env).map (·.2) := by rfl) : JGs X G μ μ' (e :: es) (bCons a b) := by
  obtain ⟨t1, p1, s1⟩ := h1.ex
  obtain ⟨t2, p2, s2⟩ := h2.ex
  refine ⟨_, pgs_cons p1 p2 hs, fun F S H σ ρ vs ds ρ' h q e Q k => ?_⟩
  unfold bCons at e
  cases q with
  | nil => cases e
  | @cons v d vs ds q1 q2 =>
    dsimp only at e
    cases z : a d ρ with
    | none => rw [z] at e; cases e
    | some ρ1 =>
      rw [z] at e
      exact ⟨_, _, rfl, s1 F S H σ ρ _ _ ρ1 h q1 z _ fun σ1 S1 H1 e1 h1 => s2 F S1 H1 σ1 ρ1 _ _ ρ' h1 (q2.mono e1) e Q fun σ2 S2 H2 e2 h2 => k σ2 S2 H2 (e1.trans e2) h2⟩
noncomputable def bTup (n : Nat) (b : List D → List D → Option (List D)) : MB := fun d ρ => match d with
  | .tup ds => if ds.length = n then b ds ρ else none
  | _ => none
theorem jg_tup {es : List Expr} {k n : Nat} {pos : Pos} {b : List D → List D → Option (List D)} (h : JGs X G μ μ' es b) (hc : X.calm = true := by rfl) (hn : (assignEach es X.env).length = n := by rfl) (hst : (assignEach es X.env).findIdx? (·.1) = none := by rfl) :
    JG X G μ μ' (.Tuple es k pos) (bTup n b) := by
  obtain ⟨t1, p1, s1⟩ := h.ex
  refine ⟨_, pg_tup hc p1 hn hst, fun F S H σ ρ v d ρ' h q e Q k => ?_⟩
  unfold bTup at e
  split at e
  · split at e
    · rename_i hl
      cases q with
      | tup a1 a2 => exact ⟨_, _, rfl, Evl.ex_t h.sh a1, by rw [a2.length, hl], s1 F S H σ ρ _ _ ρ' h a2 e Q k⟩
    · cases e
  · cases e
noncomputable def mAsgT (b : MB) (a : ME) : MS := fun ρ => match a ρ with
  | .ok d ρ1 => match b d ρ1 with
    | some ρ2 => .nx ρ2
    | none => .bad
  | .exc e ρ1 => .exc e ρ1
  | .bad => .bad
theorem js_asgT {tg e : Expr} {a : ME} {b : MB} {pos : Pos} (he : JE X G C.E .d μ e a) (hg : JG X G μ μ' tg b) (w : ModesLe C.μx μ = true := by rfl) (hs : swapsWithSole [tg] e pos.line X.env = pure false := by rfl) (hw : swappedStores [tg] e X.env = pure none := by rfl)
    (h1 : (assignEach [tg] X.env).map (·.2) = [assign tg X.env] := by rfl) : JS X G C μ μ' (.Assign [tg] e pos) (mAsgT b a) := by
  obtain ⟨t1, p1, s1⟩ := he.ex
  obtain ⟨t2, p2, s2⟩ := hg.ex
  refine ⟨_, ps_asg p1 p2 hs hw h1, fun F S H σ ρ h D k => s1 F S H σ ρ h _ ?_⟩
  unfold mAsgT at k
  cases q : a ρ with
  | ok d ρ1 =>
    rw [q] at k
    intro v S1 H1 e1 h1
    dsimp only at k
    cases z : b d ρ1 with
    | none => rw [z] at k; exact k.elim
    | some ρ2 =>
      rw [z] at k
      exact s2 F S1 H1 σ ρ1 v d ρ2 h1.tail h1.head z _ fun σ2 S2 H2 e2 h2 => k σ2 S2 H2 (e1.trans e2) h2
  | exc e1 ρ1 => rw [q] at k; exact xout w k
  | bad => rw [q] at k; exact k
noncomputable def mPar (i j : Nat) (a b : ME) : MS := fun ρ => match a ρ with
  | .ok d ρ1 => match b ρ1 with
    | .ok d2 ρ2 => .nx ((ρ2.set i d).set j d2)
    | .exc e ρ1 => .exc e ρ1
    | .bad => .bad
  | .exc e ρ1 => .exc e ρ1
  | .bad => .bad
theorem js_par {i j : Nat} {x y : Str} {a b : Expr} {ma mb : ME} {px py pt pos : Pos} {kt k2 pt2} (hN : X.N.Nodup) (ha : JE X G C.E .d μ a ma) (hb : JE X G C.E .d μ b mb) (hi : X.N[i]? = some x := by rfl) (hj : X.N[j]? = some y := by rfl) (hij : i ≠ j := by decide)
    (hx : X.env.scope.names.lookup x = some .local := by rfl) (hy : X.env.scope.names.lookup y = some .local := by rfl) (hli : i < μ.length := by decide) (hlj : j < μ.length := by decide) (w : ModesLe C.μx μ = true := by rfl) (hc : X.calm = true := by rfl)
    (h1 : starEach [a, b] X.env = (false, eval a X.env) :: starEach [b] X.env := by rfl) (h2 : starEach [b] X.env = (false, eval b X.env) :: starEach [] X.env := by rfl)
    (hw : swappedStores [.Tuple [.Name x px, .Name y py] kt pt] (.Tuple [a, b] k2 pt2) X.env = pure (some [x, y]) := by rfl)
    (hs : swapsWithSole [.Tuple [.Name x px, .Name y py] kt pt] (.Tuple [a, b] k2 pt2) pos.line X.env = pure false := by rfl) :
    JS X G C μ ((μ.set i .d).set j .d) (.Assign [.Tuple [.Name x px, .Name y py] kt pt] (.Tuple [a, b] k2 pt2) pos) (mPar i j ma mb) := by
  obtain ⟨t1, p1, s1⟩ := ha.ex
  obtain ⟨t2, p2, s2⟩ := hb.ex
  refine ⟨_, ps_par hc hN hi hj hij hx hy (pa_cons p1 (pa_cons p2 pa_nil h2) h1) hw hs, fun F S H σ ρ h D k => s1 F S H σ ρ h _ ?_⟩
  unfold mPar at k
  cases q : ma ρ with
  | ok d ρ1 =>
    rw [q] at k
    intro v S1 H1 e1 h1
    refine s2 F S1 H1 σ ρ1 h1.tail _ ?_
    dsimp only at k
    have k1 := OutOk.mono e1 k
    cases q2 : mb ρ1 with
    | ok d2 ρ2 =>
      rw [q2] at k1
      intro v2 S2 H2 e2 h2
      refine ⟨v, v2, rfl, k1 _ S2 H2 e2 ?_⟩
      have h3 := (h2.tail.push (h1.head.mono e2)).store hli
      have h4 : EnvOk X.K G F S2 H2 (.d :: μ.set i .d) (some v2 :: σ.set i (some v)) (d2 :: ρ2.set i d) := h3.push h2.head
      exact h4.store (by simpa using hlj)
    | exc e2 ρ2 => rw [q2] at k1; exact xout w k1
    | bad => rw [q2] at k1; exact k1
  | exc e1 ρ1 => rw [q] at k; exact xout w k
  | bad => rw [q] at k; exact k
noncomputable def itemsOf : D → Option (List D)
  | .lst ds => some ds
  | .scr ns => some (ns.map .int)
  | _ => none
noncomputable def mItL (a : ME) : MA := fun ρ => (a ρ).bind fun d ρ1 => RR.of (itemsOf d) ρ1
theorem it_list {a : Addr} {vs : List V} {ds : List D} (h1 : SqL K S a vs) (h2 : DatL K G S vs ds) : ItOk K G F S (Itl K a) ds := by
  have w := walk_list (K := K) (a := a) (xs := vs)
  refine ⟨fun i H hi e _ => w.goes i H (by rw [h2.length]; exact hi) (Evl.ex_l e h1), fun H e _ => by rw [← h2.length]; exact w.stops H (Evl.ex_l e h1), fun i H x H' d hd e _ y => .inl ?_⟩
  have hi : i < ds.length := (List.getElem?_eq_some_iff.mp hd).1
  obtain ⟨y1, y2⟩ := w.yields i H x H' (by rw [h2.length]; exact hi) (Evl.ex_l e h1) y
  obtain ⟨v, e1, e2⟩ := h2.get hd
  rw [y2] at e1
  cases e1
  exact ⟨y1, e2⟩
theorem it_tup {a : Addr} {vs : List V} {ds : List D} (h1 : SqT K S a vs) (h2 : DatL K G S vs ds) : ItOk K G F S (Itt K a) ds := by
  have w := walk_tup (K := K) (a := a) (xs := vs)
  refine ⟨fun i H hi e _ => w.goes i H (by rw [h2.length]; exact hi) (Evl.ex_t e h1), fun H e _ => by rw [← h2.length]; exact w.stops H (Evl.ex_t e h1), fun i H x H' d hd e _ y => .inl ?_⟩
  have hi : i < ds.length := (List.getElem?_eq_some_iff.mp hd).1
  obtain ⟨y1, y2⟩ := w.yields i H x H' (by rw [h2.length]; exact hi) (Evl.ex_t e h1) y
  obtain ⟨v, e1, e2⟩ := h2.get hd
  rw [y2] at e1
  cases e1
  exact ⟨y1, e2⟩
theorem datL_ints : ∀ ns : List Int, DatL K G S (ns.map V.int) (ns.map D.int)
  | [] => .nil
  | n :: ns => .cons (.int n) (datL_ints ns)
theorem ji_list {tg e : Expr} {a : ME} (he : JE X G E .d μ e a) : JI X G E μ tg e (mItL a) := by
  obtain ⟨t1, p1, s1⟩ := he.ex
  refine ⟨_, pi_list p1, fun F S H σ ρ h R k => s1 F S H σ ρ h _ ?_⟩
  unfold mItL at k
  cases q : a ρ with
  | ok d ρ1 =>
    rw [q, bind_ok] at k
    intro v S1 H1 e1 h1
    have hd := h1.head
    cases hd with
    | lst a1 a2 => exact ⟨_, rfl, ⟨_, .inl (.inl (h1.sh _ _ a1))⟩, k _ S1 H1 e1 h1.tail (it_list (.inl (.inl a1)) a2)⟩
    | scr a1 => exact ⟨_, rfl, ⟨_, Evl.ex_l h1.sh a1⟩, k _ S1 H1 e1 h1.tail (it_list a1 (datL_ints _))⟩
    | _ => exact k.elim
  | exc e1 ρ1 => rw [q] at k; exact k
  | bad => rw [q] at k; exact k
noncomputable def mItT (a : ME) : MA := fun ρ => (a ρ).bind fun d ρ1 => RR.of (match d with | .tup ds => some ds | _ => none) ρ1
theorem ji_tup {tg e : Expr} {a : ME} (he : JE X G E .d μ e a) : JI X G E μ tg e (mItT a) := by
  obtain ⟨t1, p1, s1⟩ := he.ex
  refine ⟨_, pi_tup p1, fun F S H σ ρ h R k => s1 F S H σ ρ h _ ?_⟩
  unfold mItT at k
  cases q : a ρ with
  | ok d ρ1 =>
    rw [q, bind_ok] at k
    intro v S1 H1 e1 h1
    have hd := h1.head
    cases hd with
    | tup a1 a2 => exact ⟨_, rfl, ⟨_, Evl.ex_t h1.sh a1⟩, k _ S1 H1 e1 h1.tail (it_tup a1 a2)⟩
    | _ => exact k.elim
  | exc e1 ρ1 => rw [q] at k; exact k
  | bad => rw [q] at k; exact k
noncomputable def ilist (lo : Int) (n : Nat) : List D := (List.range n).map fun (i : Nat) => .int (lo + (i : Int))
theorem it_range {lo : Int} {n : Nat} : ItOk K G F S (Itr lo n) (ilist lo n) := by
  have w := walk_range (lo := lo) (n := n)
  have l : (ilist lo n).length = n := by simp [ilist]
  refine ⟨fun i H hi e _ => w.goes i H (by rw [← l]; exact hi) trivial, fun H e _ => by rw [l]; exact w.stops H trivial, fun i H x H' d hd e _ y => .inl ?_⟩
  have hi : i < n := by rw [← l]; exact (List.getElem?_eq_some_iff.mp hd).1
  obtain ⟨y1, y2⟩ := w.yields i H x H' hi trivial y
  refine ⟨y1, ?_⟩
  have : (ilist lo n)[i]? = some (.int (lo + (i : Int))) := by simp [ilist, hi]
  rw [this] at hd
  cases hd
  rw [y2]
  exact .int _
noncomputable def rng1 : List D → Option (List D)
  | [.int j] => if -1000000 ≤ j ∧ j ≤ 1000000 then some (ilist 0 j.toNat) else none
  | _ => none
noncomputable def mRng (f : List D → Option (List D)) (a : MA) : MA := fun ρ => (a ρ).bind fun ds ρ1 => RR.of (f ds) ρ1
theorem ji_rng1 {tg e : Expr} {a : MA} {p pos : Pos} (hm : X.mg "range" = none) (he : JA X G E μ [e] a) (hg : Gl X "range" := by rfl) (hs : starEach [e] X.env = [(false, eval e X.env)] := by rfl) : JI X G E μ tg (.Call (.Name "range" p) [e] [] pos) (mRng rng1 a) := by
  obtain ⟨t1, p1, s1⟩ := he.ex
  refine ⟨_, pi_range1 hg hm p1 hs, fun F S H σ ρ h R k => s1 F S H σ ρ h _ ?_⟩
  unfold mRng at k
  cases q : a ρ with
  | ok ds ρ1 =>
    rw [q, bind_ok] at k
    intro vs S1 H1 e1 h1 q1
    match ds, q1, k with
    | [.int j], .cons q2 .nil, k =>
      cases q2
      have k' : IOk X.K G E μ F S σ R (RR.of (if -1000000 ≤ j ∧ j ≤ 1000000 then some (ilist 0 j.toNat) else none) ρ1) := k
      split at k'
      · rename_i hc
        exact ⟨j, rfl, by omega, by omega, k' _ S1 H1 e1 h1 it_range⟩
      · exact k'.elim
  | exc e1 ρ1 => rw [q] at k; exact k
  | bad => rw [q] at k; exact k
end
end MR
namespace MR
open PySem L2 PyProof.Rows
section
variable {X : Cx} {G : Cl} {E : XS} {C : SC} {μ μ' μ1 : List Mode} {r : Mode}
variable {K : PySem.W.Frag} {F : Fo} {S H : Hp} {σ : L2.St} {ρ : List D}
theorem je_frz {e : Expr} {m : ME} (h : JE X G E .o μ e m) : JE X G E .d μ e m := by
  obtain ⟨t1, p1, s1⟩ := h.ex
  refine ⟨t1, p1, fun F S H σ ρ h Q k => s1 F S H σ ρ h _ ?_⟩
  cases q : m ρ with
  | ok d ρ1 =>
    rw [q] at k
    intro v S1 H1 e1 h1
    obtain ⟨S2, e2, h2⟩ := h1.frz (i := 0) rfl
    exact k v S2 H1 (e1.trans e2) h2
  | exc e1 ρ1 => rw [q] at k; exact k
  | bad => rw [q] at k; exact k
theorem EnvOk.addF {p : Addr} {o : HO} {ho : noTup o = true} (h : EnvOk K G F S H μ σ ρ) (hp : H p = none) : EnvOk K G (F.upd p o ho) S (upd H p o) μ σ ρ := by
  have hS : S p = none := ex_none h.sh hp
  obtain ⟨fp, ⟨f1, f2, f3⟩, f4, sl, th⟩ := h.fps
  have np : ∀ i a, a ∈ fp i → a ≠ p := fun i a hi z => by
    obtain ⟨o', e, _⟩ := th i a hi
    rw [z, hp] at e
    cases e
  have e2 : Ex H (upd H p o) := Evl.Ex.new hp
  refine ⟨h.sh.trans e2, fun a u q => ?_, h.ls, h.lr, fp, ⟨fun i a ha => ⟨(f1 i a ha).1, by rw [Fo.upd_ne (np i a ha)]; exact (f1 i a ha).2⟩, f2, f3⟩, f4, fun i m q => (sl i m q).mono (Evl.Ex.refl S) fun a ha => upd_ne (np i a ha)⟩
  by_cases z : a = p
  · subst z
    rw [Fo.upd_same] at q
    rw [upd_same]
    exact ⟨q, hS⟩
  · rw [Fo.upd_ne z] at q
    rw [upd_ne z]
    exact h.fk a u q
theorem EnvOk.chF {p : Addr} {o o' : HO} {ho : noTup o = true} {ho' : noTup o' = true} (h : EnvOk K G (F.upd p o ho) S H μ σ ρ) : EnvOk K G (F.upd p o' ho') S (upd H p o') μ σ ρ := by
  obtain ⟨hp, hS⟩ := h.fk p o Fo.upd_same
  obtain ⟨fp, ⟨f1, f2, f3⟩, f4, sl, th⟩ := h.fps
  have np : ∀ i a, a ∈ fp i → a ≠ p := fun i a hi z => by
    have := (f1 i a hi).2
    rw [z, Fo.upd_same] at this
    cases this
  refine ⟨fun a u z => ?_, fun a u q => ?_, h.ls, h.lr, fp, ⟨fun i a ha => ⟨(f1 i a ha).1, ?_⟩, f2, f3⟩, f4, fun i m q => (sl i m q).mono (Evl.Ex.refl S) fun a ha => upd_ne (np i a ha)⟩
  · rw [upd_ne (ne_of_none z hS)]
    exact h.sh _ _ z
  · by_cases z : a = p
    · subst z
      rw [Fo.upd_same] at q
      rw [upd_same]
      exact ⟨q, hS⟩
    · rw [Fo.upd_ne z] at q
      rw [upd_ne z]
      exact h.fk a u (by rw [Fo.upd_ne z]; exact q)
  · have := (f1 i a ha).2
    rw [Fo.upd_ne (np i a ha)] at this ⊢
    exact this
theorem EnvOk.takeF {p : Addr} {vs : List V} {ds : List D} (h : EnvOk K G (F.upd p (.lst vs)) S H μ σ ρ) (hF : F p = none) (q : DatL K G S vs ds) : EnvOk K G F S H (.o :: μ) (some (.ref p) :: σ) (.lst ds :: ρ) := by
  obtain ⟨hp, hS⟩ := h.fk p _ Fo.upd_same
  obtain ⟨fp, ⟨f1, f2, f3⟩, f4, sl, th⟩ := h.fps
  have np : ∀ i a, a ∈ fp i → a ≠ p := fun i a hi z => by
    have := (f1 i a hi).2
    rw [z, Fo.upd_same] at this
    cases this
  refine ⟨h.sh, fun a u z => h.fk a u (by rw [Fo.upd_ne (ne_of_none z hF)]; exact z), by simp [h.ls], by simp [h.lr], fun i => match i with | 0 => [p] | i + 1 => fp i, ⟨?_, ?_, ?_⟩, ?_, ?_⟩
  · intro i a ha
    cases i with
    | zero =>
      rw [List.mem_singleton.mp ha]
      exact ⟨hS, hF⟩
    | succ i =>
      refine ⟨(f1 i a ha).1, ?_⟩
      have := (f1 i a ha).2
      rw [Fo.upd_ne (np i a ha)] at this
      exact this
  · intro i j a ha hb
    cases i with
    | zero =>
      cases j with
      | zero => rfl
      | succ j => exact absurd (List.mem_singleton.mp ha) (np j a hb)
    | succ i =>
      cases j with
      | zero => exact absurd (List.mem_singleton.mp hb) (np i a ha)
      | succ j => exact congrArg (· + 1) (f2 i j a ha hb)
  · intro i
    cases i with
    | zero => exact List.nodup_cons.mpr ⟨by simp, List.nodup_nil⟩
    | succ i => exact f3 i
  · intro i hi
    cases i with
    | zero => simp at hi
    | succ i => exact f4 i (by simpa using hi)
  · intro i m e
    cases i with
    | zero =>
      simp only [List.getElem?_cons_zero, Option.some.injEq] at e
      subst e
      exact ⟨p, rfl, .lst hp q.ownL, rfl⟩
    | succ i =>
      have z := sl i m (by simpa using e)
      simpa [Fo.upd] using z
theorem EnvOk.swapσ {σ' : L2.St} (h : EnvOk K G F S H μ σ ρ) (hl : σ'.length = σ.length) (k : ∀ (i : Nat) (m : Mode), μ[i]? = some m → m ≠ Mode.x → σ'[i]? = σ[i]?) : EnvOk K G F S H μ σ' ρ := by
  obtain ⟨sh, fk, ls, lr, fp, f, f4, sl⟩ := h
  refine ⟨sh, fk, hl.trans ls, lr, fp, f, f4, fun i m e => ?_⟩
  have z := sl i m e
  cases m with
  | x => exact z
  | _ => rw [k i _ e (by simp)]; exact z
theorem wipe_get (σ : L2.St) : ∀ (vs : List Nat) (i : Nat), i ∉ vs → (wipe σ vs)[i]? = σ[i]?
  | [], _, _ => rfl
  | v :: vs, i, h => by
    have h1 : v ≠ i := fun z => h (by simp [z])
    have h2 : i ∉ vs := fun z => h (List.mem_cons_of_mem _ z)
    show ((wipe σ vs).set v none)[i]? = _
    rw [List.getElem?_set_ne h1]
    exact wipe_get σ vs i h2
noncomputable def allX (μ : List Mode) (vs : List Nat) : Bool := vs.all fun i => decide (μ[i]? = some .x)
theorem EnvOk.wipe {vs : List Nat} (h : EnvOk K G F S H μ σ ρ) (hx : allX μ vs = true) : EnvOk K G F S H μ (L2.wipe σ vs) ρ := by
  refine h.swapσ (wipe_length σ vs) fun i m e n => wipe_get σ vs i fun hi => ?_
  have := List.all_eq_true.mp hx i hi
  rw [decide_eq_true_iff, e] at this
  exact n (Option.some.inj this)
theorem wipe_wipe (σ : L2.St) (vs : List Nat) : L2.wipe (L2.wipe σ vs) vs = L2.wipe σ vs := by
  apply List.ext_getElem?
  intro i
  by_cases h : i ∈ vs
  · have key : ∀ (τ : L2.St) (ws : List Nat), i ∈ ws → i < τ.length → (L2.wipe τ ws)[i]? = some none := by
      intro τ ws
      induction ws with
      | nil => intro h; cases h
      | cons w ws ih =>
        intro h hl
        show ((L2.wipe τ ws).set w none)[i]? = _
        by_cases e : w = i
        · subst e
          rw [List.getElem?_set_self (by rw [wipe_length]; exact hl)]
        · rw [List.getElem?_set_ne e]
          rcases List.mem_cons.mp h with z | z
          · exact absurd z.symm e
          · exact ih z hl
    by_cases hl : i < σ.length
    · rw [key _ vs h (by rw [wipe_length]; exact hl), key _ vs h hl]
    · rw [List.getElem?_eq_none (by rw [wipe_length, wipe_length]; omega), List.getElem?_eq_none (by rw [wipe_length]; omega)]
  · rw [wipe_get _ vs i h]
noncomputable def GW (g : TG) (vs : List Nat) : Prop := ∀ v σ H Q (Q' : L2.St → Hp → Prop), g v σ H Q → (∀ σ2 H2, L2.wipe σ2 vs = L2.wipe σ vs → Q σ2 H2 → Q' σ2 H2) → g v σ H Q'
noncomputable def GWs (g : TGs) (vs : List Nat) : Prop := ∀ v σ H Q (Q' : L2.St → Hp → Prop), g v σ H Q → (∀ σ2 H2, L2.wipe σ2 vs = L2.wipe σ vs → Q σ2 H2 → Q' σ2 H2) → g v σ H Q'
theorem wipe_set {σ : L2.St} {vs : List Nat} {i : Nat} {s : Option V} (h : i ∈ vs) : L2.wipe (σ.set i s) vs = L2.wipe σ vs := by
  induction vs with
  | nil => cases h
  | cons w ws ih =>
    show (L2.wipe (σ.set i s) ws).set w none = (L2.wipe σ ws).set w none
    by_cases e : i ∈ ws
    · rw [ih e]
    · rcases List.mem_cons.mp h with z | z
      · subst z
        have : L2.wipe (σ.set i s) ws = (L2.wipe σ ws).set i s := by
          clear ih h
          induction ws with
          | nil => rfl
          | cons u us ih2 =>
            have e2 : i ∉ us := fun z => e (List.mem_cons_of_mem _ z)
            have e3 : i ≠ u := fun z => e (by simp [z])
            show (L2.wipe (σ.set i s) us).set u none = ((L2.wipe σ us).set u none).set i s
            rw [ih2 e2, List.set_comm _ _ (Ne.symm e3)]
        rw [this, List.set_set]
      · exact absurd z e
theorem gw_name {i : Nat} {vs : List Nat} (h : i ∈ vs) : GW (gName i) vs := fun v σ H Q Q' q k => k _ _ (wipe_set h) q
theorem gws_nil {vs : List Nat} : GWs gNil vs := fun v σ H Q Q' ⟨e, q⟩ k => ⟨e, k _ _ rfl q⟩
structure JGc (X : Cx) (G : Cl) (μ μ' : List Mode) (vs : List Nat) (e : Expr) (b : MB) : Prop where
  ex : ∃ g, PG X e g ∧ SG X.K G μ μ' g b ∧ GW g vs
structure JGcs (X : Cx) (G : Cl) (μ μ' : List Mode) (vs : List Nat) (es : List Expr) (b : List D → List D → Option (List D)) : Prop where
  ex : ∃ g, PGs X es g ∧ (∀ F S H σ ρ vs ds ρ', EnvOk X.K G F S H μ σ ρ → DatL X.K G S vs ds → b ds ρ = some ρ' →
    ∀ Q : L2.St → Hp → Prop, (∀ σ' S' H', Ex S S' → EnvOk X.K G F S' H' μ' σ' ρ' → Q σ' H') → g vs σ H Q) ∧ GWs g vs
theorem jgc_name {i : Nat} {x : Str} {pos : Pos} {vs : List Nat} (hN : X.N.Nodup) (hv : i ∈ vs := by decide) (hi : X.N[i]? = some x := by rfl) (hx : Loc X.env.scope x := by first | exact Or.inl rfl | exact Or.inr rfl) (hlt : i < μ.length := by decide) (hf : X.fn x = true ∨ X.env.scope.names.lookup x = some .local := by first | exact .inl rfl | exact .inr rfl) :
    JGc X G μ (μ.set i .d) vs (.Name x pos) (bName i) := ⟨_, pg_name hN hi hx hf, fun F S H σ ρ v d ρ' h q e Q k => by
  cases e
  exact k _ S H (Evl.Ex.refl S) ((h.push q).store hlt), gw_name hv⟩
theorem jgcs_nil {vs : List Nat} : JGcs X G μ μ vs [] bNil := by
  refine ⟨_, pgs_nil, fun F S H σ ρ vs ds ρ' h q e Q k => ?_, gws_nil⟩
  unfold bNil at e
  split at e
  · cases e
    cases q
    exact ⟨rfl, k σ S H (Evl.Ex.refl S) h⟩
  · cases e
theorem jgcs_name {i : Nat} {x : Str} {pos : Pos} {vs : List Nat} {es : List Expr} {b : List D → List D → Option (List D)} (hN : X.N.Nodup) (h2 : JGcs X G (μ.set i .d) μ' vs es b) (hv : i ∈ vs := by decide) (hi : X.N[i]? = some x := by rfl) (hx : Loc X.env.scope x := by first | exact Or.inl rfl | exact Or.inr rfl) (hlt : i < μ.length := by decide) (hf : X.fn x = true ∨ X.env.scope.names.lookup x = some .local := by first | exact .inl rfl | exact .inr rfl)
    (hs : (assignEach (.Name x pos :: es) X.env).map (·.2) = assign (.Name x pos) X.env :: (assignEach es X.env).map (·.2) := by rfl) : JGcs X G μ μ' vs (.Name x pos :: es) (bCons (bName i) b) := by
  obtain ⟨t2, p2, s2, w2⟩ := h2.ex
  refine ⟨_, pgs_cons (pg_name hN hi hx hf) p2 hs, fun F S H σ ρ vs ds ρ' h q e Q k => ?_, fun v σ H Q Q' ⟨v1, r1, e1, q1⟩ k => ⟨v1, r1, e1, ?_⟩⟩
  · unfold bCons at e
    cases q with
    | nil => cases e
    | @cons v d vs ds q1 q2 => exact ⟨_, _, rfl, s2 F S H _ _ _ _ ρ' ((h.push q1).store hlt) q2 e Q k⟩
  · exact w2 _ _ _ _ Q' q1 fun σ2 H2 e2 q2 => k σ2 H2 (e2.trans (wipe_set hv)) q2
theorem jgc_tup {es : List Expr} {k n : Nat} {pos : Pos} {vs : List Nat} {b : List D → List D → Option (List D)} (h : JGcs X G μ μ' vs es b) (hc : X.calm = true := by rfl) (hn : (assignEach es X.env).length = n := by rfl) (hst : (assignEach es X.env).findIdx? (·.1) = none := by rfl) :
    JGc X G μ μ' vs (.Tuple es k pos) (bTup n b) := by
  obtain ⟨t1, p1, s1, w1⟩ := h.ex
  refine ⟨_, pg_tup hc p1 hn hst, fun F S H σ ρ v d ρ' h q e Q k => ?_, fun v σ H Q Q' ⟨a, xs, e1, e2, e3, q1⟩ k => ⟨a, xs, e1, e2, e3, w1 _ _ _ _ Q' q1 k⟩⟩
  unfold bTup at e
  split at e
  · split at e
    · rename_i hl
      cases q with
      | tup a1 a2 => exact ⟨_, _, rfl, Evl.ex_t h.sh a1, by rw [a2.length, hl], s1 F S H σ ρ _ _ ρ' h a2 e Q k⟩
    · cases e
  · cases e
theorem fxD {p : Addr} {o : HO} {ho : noTup o = true} (h : EnvOk K G (F.upd p o ho) S H μ σ ρ) (hF : F p = none) : Ex F.hp H := fun a u q => h.fx a u (by show L2.upd F.hp p o a = _; rw [L2.upd_ne (ne_of_none q hF)]; exact q)
structure JTs (X : Cx) (G : Cl) (E : XS) (μ : List Mode) (es : List Expr) (m : MT) : Prop where
  ex : ∃ t, PTs X es t ∧ ST X.K G E μ t m
noncomputable def mYes : MT := fun ρ => .ok true ρ
theorem jts_nil : JTs X G E μ [] mYes := ⟨_, pts_nil, fun F S H σ ρ h Q k => k S H (Evl.Ex.refl S) h⟩
noncomputable def lcL (b : MB) (t : MT) (a : ME) (μ : List Mode) : List D → List D → List D → RR D
  | [], acc, ρ => .ok (.lst acc) ρ
  | d :: ds, acc, ρ => match b d ρ with
    | none => .bad
    | some ρ1 => match t ρ1 with
      | .ok true ρ2 => match a ρ2 with
        | .ok x ρ3 => if acc.length < 1000000 then lcL b t a μ ds (acc ++ [x]) (keep μ ρ3) else .bad
        | _ => .bad
      | .ok false ρ2 => lcL b t a μ ds acc (keep μ ρ2)
      | _ => .bad
noncomputable def mLc (it : MA) (b : MB) (t : MT) (a : ME) (μ : List Mode) : ME := fun ρ => (it ρ).bind fun ds ρ1 => lcL b t a μ ds [] ρ1
noncomputable def SGW (K : PySem.W.Frag) (G : Cl) (μ μ' : List Mode) (vs : List Nat) (g : TG) (b : MB) : Prop := ∀ F S H σ ρ v d ρ', EnvOk K G F S H μ σ ρ → Dat K G S v d → b d ρ = some ρ' →
  ∀ Q : L2.St → Hp → Prop, (∀ σ' S' H', Ex S S' → EnvOk K G F S' H' μ' σ' ρ' → L2.wipe σ' vs = L2.wipe σ vs → Q σ' H') → g v σ H Q
theorem se_lc {vs : List Nat} {wi : TI} {g : TG} {tt : TT} {te : TE} {it : MA} {b : MB} {t : MT} {a : ME} (s1 : SI K G E μ wi it) (s2 : SGW K G μ μ1 vs g b) (s3 : ST K G (fun _ => E0) μ1 tt t) (s4 : SE K G (fun _ => E0) .d μ1 te a)
    (hx : allX μ vs = true) (hm : ModesLe μ μ1 = true) : SE K G E .o μ (tLc wi g tt te vs) (mLc it b t a μ) := by
  intro F S H σ ρ h Q k
  refine s1 F S H σ ρ h _ ?_
  unfold mLc at k
  cases q : it ρ with
  | ok ds ρ1 =>
    rw [q, bind_ok] at k
    intro J S1 H1 e1 h1 J1 D hD
    have hF : F D = none := h1.freshF hD
    refine ⟨fun i m H2 => m = ds.length - i ∧ i ≤ ds.length ∧ ∃ S2 ρ2 acc vacc, Ex S1 S2 ∧ EnvOk K G (F.upd D (.lst vacc)) S2 H2 μ σ ρ2 ∧ DatL K G S2 vacc acc ∧ EOk K G E .o μ F S2 σ Q (lcL b t a μ (ds.drop i) acc ρ2), ⟨ds.length, by simp, Nat.zero_le _, S1, ρ1, [], [], Evl.Ex.refl S1, h1.addF hD, .nil, EOk.mono e1 k⟩, ?_⟩
    rintro i m H2 ⟨rfl, hi, S2, ρ2, acc, vacc, e2, h2, q2, k2⟩
    obtain ⟨hD2, hS2⟩ := h2.fk D _ Fo.upd_same
    by_cases hlt : i < ds.length
    · refine .inr ⟨J1.goes i H2 hlt (e2.trans h2.sh) (fxD h2 hF), fun H3 => ∃ S3 ρ3 acc vacc, Ex S1 S3 ∧ EnvOk K G (F.upd D (.lst vacc)) S3 H3 μ σ ρ3 ∧ DatL K G S3 vacc acc ∧ EOk K G E .o μ F S3 σ Q (lcL b t a μ (ds.drop (i + 1)) acc ρ3), fun H3 z => ⟨ds.length - (i + 1), by omega, rfl, hlt, z⟩, fun x H' y => ?_⟩
      obtain ⟨S3, e3, h3, q3⟩ := J1.item h2 e2 (fxD h2 hF) (List.getElem?_eq_getElem hlt) y
      rw [List.drop_eq_getElem_cons hlt] at k2
      unfold lcL at k2
      have h3' := h3.wipe hx
      cases q4 : b ds[i] ρ2 with
      | none => rw [q4] at k2; exact k2.elim
      | some ρ3 =>
        rw [q4] at k2
        have main : ∀ σ4 S4 H4, Ex S3 S4 → EnvOk K G (F.upd D (.lst vacc)) S4 H4 μ1 σ4 ρ3 → L2.wipe σ4 vs = L2.wipe σ vs → tt σ4 H4 fun c H5 => if c = true then te σ4 H5 fun y H6 => ∃ acc, H6 D = some (.lst acc) ∧ acc.length < sizeLine ∧ (∃ S3 ρ3 acc' vacc, Ex S1 S3 ∧ EnvOk K G (F.upd D (.lst vacc)) S3 (upd H6 D (.lst (acc ++ [y]))) μ σ ρ3 ∧ DatL K G S3 vacc acc' ∧ EOk K G E .o μ F S3 σ Q (lcL b t a μ (ds.drop (i + 1)) acc' ρ3))
            else ∃ S3 ρ3 acc vacc, Ex S1 S3 ∧ EnvOk K G (F.upd D (.lst vacc)) S3 H5 μ σ ρ3 ∧ DatL K G S3 vacc acc ∧ EOk K G E .o μ F S3 σ Q (lcL b t a μ (ds.drop (i + 1)) acc ρ3) := by
          intro σ4 S4 H4 e4 h4 hw
          have back : ∀ {S5 H5 ρ5} {F' : Fo}, EnvOk K G F' S5 H5 μ1 σ4 ρ5 → EnvOk K G F' S5 H5 μ σ (keep μ ρ5) := fun h5 => by
            have z := (h5.weak hm)
            refine (z.swapσ (σ' := σ) ?_ fun j m e n => ?_)
            · have := congrArg List.length hw
              rw [wipe_length, wipe_length] at this
              exact this.symm
            · have hj : j ∉ vs := fun hj => by
                have := List.all_eq_true.mp hx j hj
                rw [decide_eq_true_iff, e] at this
                exact n (Option.some.inj this)
              rw [← wipe_get σ vs j hj, ← hw, wipe_get σ4 vs j hj]
          refine s3 _ S4 H4 σ4 ρ3 h4 _ ?_
          have k3 := EOk.mono (e3.trans e4) k2
          dsimp only at k3
          cases q5 : t ρ3 with
          | ok c ρ4 =>
            rw [q5] at k3
            intro S5 H5 e5 h5
            cases c with
            | true =>
              rw [if_pos rfl]
              refine s4 _ S5 H5 σ4 ρ4 h5 _ ?_
              have k4 := EOk.mono e5 k3
              dsimp only at k4
              cases q6 : a ρ4 with
              | ok z ρ5 =>
                rw [q6] at k4
                intro v S6 H6 e6 h6
                dsimp only at k4
                split at k4
                · rename_i hl
                  have h7 := h6.tail
                  obtain ⟨hD6, hS6⟩ := h7.fk D _ Fo.upd_same
                  have q7 := (((q2.mono e3).mono e4).mono e5).mono e6
                  exact ⟨vacc, hD6, lt_line (by rw [q2.length]; exact hl), S6, _, _, _, (((e2.trans e3).trans e4).trans e5).trans e6, back h7.chF, q7.append (.cons h6.head .nil), EOk.mono e6 k4⟩
                · exact k4.elim
              | exc _ _ => rw [q6] at k4; exact k4.elim
              | bad => rw [q6] at k4; exact k4.elim
            | false =>
              rw [if_neg Bool.false_ne_true]
              exact ⟨S5, _, acc, vacc, ((e2.trans e3).trans e4).trans e5, back h5, ((q2.mono e3).mono e4).mono e5, EOk.mono e5 k3⟩
          | exc _ _ => rw [q5] at k3; exact k3.elim
          | bad => rw [q5] at k3; exact k3.elim
        refine s2 _ S3 H' (L2.wipe σ vs) ρ2 x _ ρ3 h3' q3 q4 _ fun σ4 S4 H4 e4 h4 hw => ?_
        rw [wipe_wipe] at hw
        exact ⟨hw.trans rfl, main σ4 S4 H4 e4 h4 hw⟩
    · have e4 : i = ds.length := by omega
      subst e4
      rw [List.drop_length] at k2
      exact .inl ⟨J1.stops H2 (e2.trans h2.sh) (fxD h2 hF), k2 _ S2 H2 (Evl.Ex.refl S2) (h2.takeF hF q2)⟩
  | exc e1 ρ1 => rw [q] at k; exact k
  | bad => rw [q] at k; exact k
noncomputable def tM (K : PySem.W.Frag) (G : Cl) (E : XS) (r : Mode) (μ : List Mode) (m : ME) : TE := fun σ H Q => ∃ F S ρ, EnvOk K G F S H μ σ ρ ∧ EOk K G E r μ F S σ Q (m ρ)
noncomputable def ttM (K : PySem.W.Frag) (G : Cl) (E : XS) (μ : List Mode) (m : MT) : TT := fun σ H Q => ∃ F S ρ, EnvOk K G F S H μ σ ρ ∧ TOk K G E μ F S σ Q (m ρ)
noncomputable def gM (K : PySem.W.Frag) (G : Cl) (μ μ' : List Mode) (vs : List Nat) (b : MB) : TG := fun v σ H Q => ∃ F S ρ d ρ', EnvOk K G F S H μ σ ρ ∧ Dat K G S v d ∧ b d ρ = some ρ' ∧ ∀ σ' S' H', Ex S S' → EnvOk K G F S' H' μ' σ' ρ' → L2.wipe σ' vs = L2.wipe σ vs → Q σ' H'
theorem JE.pe {e : Expr} {m : ME} (h : JE X G E r μ e m) : PE X e (tM X.K G E r μ m) := by
  obtain ⟨t, p, s⟩ := h.ex
  exact ⟨fun pins s0 σ H Q I ⟨F, S, ρ, h1, h2⟩ => p.run pins s0 σ H Q I (s F S H σ ρ h1 Q h2)⟩
theorem JTs.pt {es : List Expr} {m : MT} (h : JTs X G E μ es m) : PTs X es (ttM X.K G E μ m) := by
  obtain ⟨t, p, s⟩ := h.ex
  exact ⟨fun pins s0 σ H Q I ⟨F, S, ρ, h1, h2⟩ => p.run pins s0 σ H Q I (s F S H σ ρ h1 Q h2)⟩
theorem JGc.pg {e : Expr} {b : MB} {vs : List Nat} (h : JGc X G μ μ' vs e b) : PG X e (gM X.K G μ μ' vs b) := by
  obtain ⟨g, p, s, w⟩ := h.ex
  refine ⟨fun pins s0 σ H v u Q I rv ⟨F, S, ρ, d, ρ', h1, h2, h3, h4⟩ => p.run pins s0 σ H v u Q I rv ?_⟩
  exact w v σ H _ Q (s F S H σ ρ v d ρ' h1 h2 h3 (fun σ' H' => ∃ S', Ex S S' ∧ EnvOk X.K G F S' H' μ' σ' ρ') fun σ' S' H' e1 e2 => ⟨S', e1, e2⟩) fun σ2 H2 e1 ⟨S', e2, e3⟩ => h4 σ2 S' H2 e2 e3 e1
theorem se_tM {m : ME} : SE K G E r μ (tM K G E r μ m) m := fun F S H σ ρ h Q k => ⟨F, S, ρ, h, k⟩
theorem st_tM {m : MT} : ST K G E μ (ttM K G E μ m) m := fun F S H σ ρ h Q k => ⟨F, S, ρ, h, k⟩
theorem sgw_gM {b : MB} {vs : List Nat} : SGW K G μ μ' vs (gM K G μ μ' vs b) b := fun F S H σ ρ v d ρ' h1 h2 h3 Q k => ⟨F, S, ρ, d, ρ', h1, h2, h3, k⟩
theorem lc_all {vs : List Nat} {wi : TI} {it : MA} {b : MB} {t : MT} {a : ME} (s1 : SI K G E μ wi it) (hx : allX μ vs = true) (hm : ModesLe μ μ1 = true) :
    SE K G E .o μ (tLc wi (gM K G μ μ1 vs b) (ttM K G (fun _ => E0) μ1 t) (tM K G (fun _ => E0) .d μ1 a) vs) (mLc it b t a μ) := se_lc s1 sgw_gM st_tM se_tM hx hm
theorem je_lcO {vs : List Nat} {elt tg iter : Expr} {ifs : List Expr} {scope : Scope} {own : List (Str × Nat)} {pos : Pos} {it : MA} {b : MB} {t : MT} {a : ME} (hN : X.N.Nodup) (hi : JI X G E μ tg iter it) (ok : blkC X.N X.env.scope scope own = true)
    (hg : ∀ (s : Shared) (H : Hp) (A : Addr) (cl : List (Str × Addr)) (fp : List Addr), JGc (X.blk s H scope (compEnvC scope cl A X.env) fp) G μ μ1 vs tg b)
    (ht : ∀ (s : Shared) (H : Hp) (A : Addr) (cl : List (Str × Addr)) (fp : List Addr), JTs (X.blk s H scope (compEnvC scope cl A X.env) fp) G (fun _ => E0) μ1 ifs t)
    (he : ∀ (s : Shared) (H : Hp) (A : Addr) (cl : List (Str × Addr)) (fp : List Addr), JE (X.blk s H scope (compEnvC scope cl A X.env) fp) G (fun _ => E0) .d μ1 elt a)
    (hv : own.map (·.2) = vs := by rfl) (hx : allX μ vs = true := by rfl) (hm : ModesLe μ μ1 = true := by rfl) (hc : X.calm = true := by rfl) (hs : ∀ x, foldedSetIterable iter X.env x = pure x := by intro _; rfl) :
    JE X G E .o μ (.ListComp elt [⟨tg, iter, ifs, 0⟩] scope pos) (mLc it b t a μ) := by
  obtain ⟨wi, p1, s1⟩ := hi.ex
  refine ⟨_, pe_lc (g := gM X.K G μ μ1 vs b) (tt := ttM X.K G (fun _ => E0) μ1 t) (te := tM X.K G (fun _ => E0) .d μ1 a) hc hN p1 (blkOk_by ok) (fun s H A cl fp => (hg s H A cl fp).pg) (fun s H A cl fp => (ht s H A cl fp).pt) (fun s H A cl fp => (he s H A cl fp).pe) hs, ?_⟩
  rw [hv]
  exact lc_all s1 hx hm
theorem js_asgLcO {i : Nat} {y : Str} {py : Pos} {vs : List Nat} {elt tg iter : Expr} {ifs : List Expr} {scope : Scope} {own : List (Str × Nat)} {pos spos : Pos} {it : MA} {b : MB} {t : MT} {a : ME} (hN : X.N.Nodup) (hi : JI X G C.E μ tg iter it) (ok : blkC X.N X.env.scope scope own = true)
    (hg : ∀ (s : Shared) (H : Hp) (A : Addr) (cl : List (Str × Addr)) (fp : List Addr), JGc (X.blk s H scope (compEnvC scope cl A X.env) fp) G μ μ1 vs tg b)
    (ht : ∀ (s : Shared) (H : Hp) (A : Addr) (cl : List (Str × Addr)) (fp : List Addr), JTs (X.blk s H scope (compEnvC scope cl A X.env) fp) G (fun _ => E0) μ1 ifs t)
    (he : ∀ (s : Shared) (H : Hp) (A : Addr) (cl : List (Str × Addr)) (fp : List Addr), JE (X.blk s H scope (compEnvC scope cl A X.env) fp) G (fun _ => E0) .d μ1 elt a)
    (hsw : swapsWith (.ListComp elt [⟨tg, iter, ifs, 0⟩] scope pos) (some (.Name y py)) spos.line X.env = pure true)
    (hy : X.N[i]? = some y := by rfl) (hyl : X.env.scope.names.lookup y = some .local := by rfl) (hlt : i < μ.length := by decide) (w : ModesLe C.μx μ = true := by rfl)
    (hv : own.map (·.2) = vs := by rfl) (hx : allX μ vs = true := by rfl) (hm : ModesLe μ μ1 = true := by rfl) (hc : X.calm = true := by rfl) (hs : ∀ x, foldedSetIterable iter X.env x = pure x := by intro _; rfl) :
    JS X G C μ (μ.set i .o) (.Assign [.Name y py] (.ListComp elt [⟨tg, iter, ifs, 0⟩] scope pos) spos) (mAsg i (mLc it b t a μ)) := by
  obtain ⟨wi, p1, s1⟩ := hi.ex
  refine ⟨_, ps_setLc (g := gM X.K G μ μ1 vs b) (tt := ttM X.K G (fun _ => E0) μ1 t) (te := tM X.K G (fun _ => E0) .d μ1 a) hc hN hy hyl hsw p1 (blkOk_by ok) (fun s H A cl fp => (hg s H A cl fp).pg) (fun s H A cl fp => (ht s H A cl fp).pt) (fun s H A cl fp => (he s H A cl fp).pe) hs, fun F S H σ ρ h D k => ?_⟩
  rw [hv]
  refine lc_all s1 hx hm F S H σ ρ h _ ?_
  unfold mAsg at k
  cases q : mLc it b t a μ ρ with
  | ok d ρ' => rw [q] at k; exact fun v S' H' e h' => k _ S' H' e (h'.store hlt)
  | exc e ρ' => rw [q] at k; exact xout w k
  | bad => rw [q] at k; exact k
theorem js_frzA {st : Stmt} {i : Nat} {m : MS} (h : JS X G C μ (μ.set i .o) st m) (hlt : i < μ.length := by decide) : JS X G C μ (μ.set i .d) st m := by
  obtain ⟨t, p, s⟩ := h.ex
  refine ⟨t, p, fun F S H σ ρ h D k => s F S H σ ρ h D ?_⟩
  cases q : m ρ with
  | nx ρ' =>
    rw [q] at k
    intro σ' S' H' e h'
    obtain ⟨S2, e2, h2⟩ := h'.frz (i := i) (List.getElem?_set_self hlt)
    rw [List.set_set] at h2
    exact k σ' S2 H' (e.trans e2) h2
  | _ => rw [q] at k; exact k
end
end MR
namespace PySem.W
open PySem PySem.Spec PySem.Calls PyProof.Rows
section
variable {prog : Program} {w : World} {A : Around} {E : Value → Shared → Prop} {s : Shared} {K : Frag} {x D : Addr} {ox : Obj} {odx : Option Obj}
theorem findObj_dataD {C : Addr} {name : Str} {a g : Value} (hc : (clsIn K C).isSome = true) (ha : findIn K (.ref C) name = some (some a)) (hg : specialIn K a "__get__" = some (some g)) (ht : takesIn K a = some true) : findObj K C odx name = some (.bind g a) := by
  obtain ⟨cd, hc⟩ := Option.isSome_iff_exists.mp hc
  unfold findObj
  rw [hc, Option.bind_some, ha, Option.bind_some]
  simp [hg, ht]
theorem kin_class2 {Q : Option Value → Shared → Prop} (hga : findIn K (.ref D) "__getattribute__" = some (some (.builtin "BaseException.__getattribute__"))) (hgt : findIn K (.ref D) "__getattr__" = some none) (hsub : subIn K (.ref D) (.type "BaseException") = some true)
    (hdct : hasDictIn K D = true) (ha : findIn K (.ref D) "__class__" = some (some (.builtin "object.__class__")))
    (hn : specialIn K (.builtin "object.__class__") "__get__" = some (some (.builtin "getset_descriptor.__get__"))) (htk : takesIn K (.builtin "object.__class__") = some true) (hm : mroIn K D (.type "object") = some true)
    (X : K.In s.heap) (I : InstAt s.heap x ox D odx) (h : Q (some (.ref D)) { s with toks := s.toks + 1 }) : wpAny (model prog w) A (getAttr? (.ref x) "__class__") Q E s := by
  have hf : findObj K D odx "__class__" = some (.bind (.builtin "getset_descriptor.__get__") (.builtin "object.__class__")) := findObj_dataD (by obtain ⟨cd, hc, _⟩ := any_some hdct; rw [hc]; rfl) ha hn htk
  obtain ⟨hp, g, d, t, os⟩ := s
  have L0 := I.type (M := model prog w)
  have L1 := looks_findIn (M := model prog w) X hga
  have L2 := looks_findIn (M := model prog w) X hgt
  have L3 := looks_find (M := model prog w) X I hf
  have sub : Looks (model prog w) hp (isInstance (.ref x) (.type "BaseException")) true := L0.andThen (looks_subIn X hsub)
  have hx0 : (false && onTheHeap (Value.builtin "BaseException.__getattribute__")) = false := rfl
  have hx2 : (Value.builtin "BaseException.__getattribute__" == Value.builtin "object.__getattribute__") = false := by decide +kernel
  have hx1 : (onTheHeap (Value.ref D) && Value.builtin "BaseException.__getattribute__" == Value.builtin "object.__getattribute__") = false := by rw [hx2]; rfl
  unfold getAttr? getAttrBy? getAttrBy
  refine wpAny_bind (wpAny_mkText (wpAny_bind (wpAny_attempt (wpAny_holding (wpAny_bind (L0.at (wpAny_bind (L1.at ?_))))))))
  show wpAny _ _ (if (onTheHeap (Value.ref D) && Value.builtin "BaseException.__getattribute__" == Value.builtin "object.__getattribute__") = true then _ else _) _ _ _
  rw [hx1, if_neg Bool.false_ne_true]
  unfold getAttrByItsOwn hookBefore
  refine wpAny_bind ?_
  rw [if_pos (show onTheHeap (Value.ref D) = true from rfl)]
  refine L2.at ?_
  refine wpAny_bind (wpAny_attempt (wpAny_holding ?_))
  unfold callGetattribute
  rw [hx0, if_neg Bool.false_ne_true]
  unfold boundAndCalled
  rw [PySem.F.excAttr_ValueError.ga.bind (.ref x)]
  refine wpAny_bind (wpAny_pure ?_)
  show wpAny _ _ (call (.builtin "BaseException.__getattribute__") [.ref x, .str "__class__" t]) _ _ _
  refine wpAny_call (codeAny_call_builtin PySem.F.excAttr_ValueError.ga.plain PySem.F.entry_bexc_ga ?_)
  refine @check_slot (model prog w) _ _ ⟨hp, g, d, t + 1, os⟩ "BaseException.__getattribute__" "BaseException" "__getattribute__" (.ref x) [.str "__class__" t] [] _ (by decide +kernel) (by decide +kernel) sub (PySem.F.args_bexc_ga (.ref x) (.str "__class__" t)) ?_
  unfold Builtin.«object.__getattribute__»
  refine wpAny_bind (wpAny_of_eq (a := ((Value.ref x : Value), [Value.str "__class__" t])) (by first | rfl | (simp only [slotArgs]; rfl)) ?_)
  refine wpAny_bind (wpAny_pure (wpAny_bind (L0.at (wpAny_bind (L3.at ?_)))))
  show wpAny _ _ (holding [Value.builtin "object.__class__"] (call (.builtin "getset_descriptor.__get__") [.builtin "object.__class__", .ref x, .ref D]) >>= ret) _ _ _
  refine wpAny_bind (wpAny_holding (wpAny_call (class_get (s := ⟨hp, g, d, t + 1, os⟩) (ox := ox) (od := odx) X I hm ?_)))
  refine wpAny_pure ?_
  show wpAny _ _ (handedOut (.ref D)) _ _ _
  rw [handedOut_of (v := .ref D) rfl]
  first
    | exact wpAny_pure (wpAny_pure h)
    | exact wpAny_pure h
    | exact wpAny_pure (wpAny_bind (wpAny_pure (wpAny_pure h)))
theorem kitx_exc2 (hga : findIn K (.ref D) "__getattribute__" = some (some (.builtin "BaseException.__getattribute__"))) (hgt : findIn K (.ref D) "__getattr__" = some none) (hsub : subIn K (.ref D) (.type "BaseException") = some true) (hdct : hasDictIn K D = true) (ha : findIn K (.ref D) "__class__" = some (some (.builtin "object.__class__")))
    (hn : specialIn K (.builtin "object.__class__") "__get__" = some (some (.builtin "getset_descriptor.__get__"))) (htk : takesIn K (.builtin "object.__class__") = some true) (hm : mroIn K D (.type "object") = some true) :
    KitX K (.ref x) (.ref D) (fun h => InstAt h x ox D odx) where
  ty := fun _ _ _ I => I.type
  it := fun _ _ X _ => by
    obtain ⟨cdD, hcD, _⟩ := any_some hdct
    unfold clsIn at hcD
    split at hcD
    · rename_i c' d' cd' sl' ho
      intro A' Q' E' s' k q
      unfold isType loadHead
      exact wpAny_bind (wpAny_loadPart (k _ _ (X _ _ ho)) (wpAny_pure q))
    · cases hcD
  ne := (handS_kitx_exc (x := x) (ox := ox) hga hgt hsub hdct ha hn htk hm).ne
  ca := fun X I k => kin_class2 hga hgt hsub hdct ha hn htk hm X I k
end
end PySem.W
namespace MR
open PySem L2 PySem.Spec PyProof.Rows
section
variable {K : PySem.W.Frag} {G : Cl} {E : XS} {C : SC} {μ μ' μ1 : List Mode} {r : Mode} {X : Cx}
variable {P : Program} {w : World} {mg : Str → Option Value} {base : Heap}
theorem fnD_ok {x qual : Str} {params : Arguments} {body : List Stmt} {scope : Scope} {dvs : List V} {f : Addr} {fd : FuncData} {N ps : List Str} {lv n k : Nat} {rm : Mode} {b : MS} {μe : List Mode} (F : FunD K x qual params body scope dvs [] f fd) (sc : FnScope N ps scope) (hn : ps.length = n) (hk : N.length = n + k)
    (hb : ∀ (cdv : Value) (A : Around) (outer : List Env) (s : Shared) (H : Hp) (E : XK), Room lv (A.deeper (envOfC qual scope s.heap.objs.size f cdv)) →
      JSs (cxOf (L2.CX P w) P w K mg base N qual scope f cdv A outer s H E) G (scOf E rm n k) (List.replicate n .d ++ List.replicate k .x) μe body b) :
    FnOk P w K mg base (L2.CX P w) (lv + 1) f fd ps (spP K G n rm (mDef rm k b)) := by
  refine F.ok sc (fun vs H Q E h => by rw [spP_len h, hn]) fun cdv A outer s H vs Q E hr h => ?_
  obtain ⟨t, p1, s1⟩ := (hb cdv A outer s H E hr).ex
  obtain ⟨F0, S, ds, sh, fk, q, l, z⟩ := h
  have hv : vs.length = n := by rw [q.length, l]
  refine ⟨t, p1, ?_⟩
  have e0 : L2.start N vs = vs.map some ++ List.replicate k none := by
    unfold L2.start
    rw [show N.length - vs.length = k by omega]
  rw [e0]
  have en := EnvOk.args (G := G) sh fk q k
  rw [l] at en
  refine s1 F0 S H _ _ en _ ?_
  unfold mDef at z
  cases q2 : b (ds ++ List.replicate k .non) with
  | nx ρ' =>
    rw [q2] at z
    cases rm with
    | d => exact fun σ' S' H' e' h' => z _ S' H' e' (nonOk h' rfl)
    | _ => exact z.elim
  | ret d ρ' =>
    rw [q2] at z
    exact fun v μ1 σ' S' H' _ e' h' => z v S' H' e' h'.alone
  | exc e ρ' =>
    rw [q2] at z
    exact fun μ1 σ' c dct S' H' _ e' h' x => z c dct S' H' e' h'.nothing x
  | brk ρ' => rw [q2] at z; exact z.elim
  | cnt ρ' => rw [q2] at z; exact z.elim
  | bad => rw [q2] at z; exact z.elim
theorem modeLe_trans {a b c : Mode} (h1 : ModeLe a b = true) (h2 : ModeLe b c = true) : ModeLe a c = true := by
  cases a <;> cases b <;> cases c <;> simp_all [ModeLe]
theorem modesLe_trans : ∀ {a b c : List Mode}, ModesLe a b = true → ModesLe b c = true → ModesLe a c = true
  | [], [], [], _, _ => rfl
  | a :: as, b :: bs, c :: cs, h1, h2 => by
    simp only [ModesLe, Bool.and_eq_true] at h1 h2 ⊢
    exact ⟨modeLe_trans h1.1 h2.1, modesLe_trans h1.2 h2.2⟩
noncomputable def errIs (e : Err) (n : Nat) : Bool := n == 8 || n == 9 || e.tag == n
structure CatchO (K : PySem.W.Frag) (mg : Str → Option Value) (G : Cl) (x : Str) (n : Nat) (tags : List Nat) : Prop where
  ex : ∃ C, mg x = some (.ref C) ∧ ∀ e : Err, e.tag ∈ tags → PySem.W.exmOne K (.ref (G.eA e.tag)) (.ref C) = some (errIs e n)
structure IsO (K : PySem.W.Frag) (mg : Str → Option Value) (G : Cl) (x : Str) (n : Nat) (tags : List Nat) : Prop where
  ex : ∃ C, mg x = some (.ref C) ∧ ∀ e : Err, e.tag ∈ tags → PySem.W.kitOne K (.ref (G.eA e.tag)) (.ref C) = some (errIs e n)
noncomputable def mTry (tags : List Nat) (n : Nat) (μh : List Mode) (b : MS) (h : Err → MS) : MS := fun ρ => match b ρ with
  | .exc e ρ1 => if tags.contains e.tag = true then (if errIs e n = true then h e (keep μh ρ1) else .exc e ρ1) else .bad
  | o => o
theorem EnvOk.sete {F : Fo} {S H : Hp} {σ : L2.St} {ρ : List D} {i : Nat} {a : EI} (h : EnvOk K G F S H μ σ ρ) (hx : μ[i]? = some .x) (hq : errOk G S a) : EnvOk K G F S H (μ.set i (.e a)) (σ.set i (some (.ref a.a))) ρ := by
  obtain ⟨sh, fk, ls, lr, fp, f, f4, sl⟩ := h
  have hi : i < μ.length := (List.getElem?_eq_some_iff.mp hx).1
  refine ⟨sh, fk, by simpa using ls, by simpa using lr, fp, f, fun j hj => f4 j (by simpa using hj), fun j m e => ?_⟩
  by_cases z : j = i
  · subst z
    rw [List.getElem?_set_self hi] at e
    cases e
    rw [List.getElem?_set_self (by omega)]
    exact ⟨sl j .x hx, rfl, hq⟩
  · rw [List.getElem?_set_ne (Ne.symm z)] at e ⊢
    exact sl j m e
theorem EnvOk.gone {F : Fo} {S H : Hp} {σ : L2.St} {ρ : List D} {i : Nat} (h : EnvOk K G F S H μ σ ρ) (hx : μ.getD i .x = .x) : EnvOk K G F S H μ (σ.set i none) ρ := by
  refine h.swapσ (by simp) fun j m e n => ?_
  have : j ≠ i := fun z => by
    subst z
    rw [List.getD_eq_getElem?_getD, e] at hx
    exact n hx
  rw [List.getElem?_set_ne (Ne.symm this)]
noncomputable abbrev SC.try (C : SC) (W : WX) (μh : List Mode) : SC := { C with E := fun σ c d H => W c d σ H, μx := μh }
theorem js_tryAs {x n : Str} {i cn : Nat} {tags : List Nat} {body suite : List Stmt} {b₀ : Stmt} {np pos pos' : Pos} {mb : MS} {mh : Err → MS} (μh : List Mode) (hN : X.N.Nodup) (hc : CatchO X.K X.mg G x cn tags) (tk : Takes X (fun c d σ H => C.E σ c d H))
    (hb : ∀ (W : WX) (pn : List (Addr × Obj)) (xe : Value → Shared → Prop), Takes (X.tr pn xe) W → PassesOwn (model X.prog X.w) X.A X.env xe → JSs (X.tr pn xe) G (C.try W μh) μ μ' body mb)
    (hsu : ∀ (e : Err) (a : Addr) (oe : Obj) (d : Option Addr) (pn : List (Addr × Obj)), e.tag ∈ tags → Zc (.ref (G.eA e.tag)) d oe → ((∀ m, e ≠ .line m) → d = none) → (∃ vs, oe.data = .fields vs) → JSs (X.suite a ((a, oe) :: pn)) G C (μh.set i (.e ⟨a, d, e, false⟩)) μ' (b₀ :: suite) (mh e))
    (hx : μh[i]? = some .x := by rfl) (wx : ModesLe C.μx μh = true := by rfl) (h' : μ'.getD i .x = .x := by rfl) (hbk : C.μb.getD i .x = .x := by rfl) (hct : C.μc.getD i .x = .x := by rfl)
    (hs : X.stack = X.env :: X.outer := by rfl) (hf : X.env.frame = some X.env.locals := by rfl) (hi : X.N[i]? = some n := by rfl) (hln : X.env.kindOf n = some .local := by rfl) (hg : Gl X x := by rfl) (hdb : (x == ("__debug__" : Str)) = false := by decide) :
    JS X G C μ μ' (.Try body [.ExceptHandler (some (.Name x np)) (some n) (b₀ :: suite) pos'] [] [] pos) (mTry tags cn μh mb mh) := by
  obtain ⟨A, hm, hex⟩ := hc.ex
  refine ⟨_, ps_try_as (c := .ref A) (tb := fun W D σ H => ∀ pn xe, Takes (X.tr pn xe) W → PassesOwn (model X.prog X.w) X.A X.env xe → ∃ t, PSs (X.tr pn xe) body t ∧ t D σ H)
    (ts := fun a cls d D σ H => ∀ oe pn, Zc cls d oe → (∃ vs, oe.data = .fields vs) → ∃ t, PSs (X.suite a ((a, oe) :: pn)) (b₀ :: suite) t ∧ t D σ H) hs hf hN hi hln ⟨hg, hdb, .inl hm⟩ tk
    (fun W pn xe tk po => ⟨fun pins s σ H D I h => let ⟨t, p, q⟩ := h pn xe tk po; p.run pins s σ H D I q⟩)
    (fun a oe cls d pn hz hd => ⟨fun pins s σ H D I h => let ⟨t, p, q⟩ := h oe pn hz hd; p.run pins s σ H D I q⟩), fun F S H σ ρ h D k pn xe tk2 po => ?_⟩
  obtain ⟨t, p, q⟩ := (hb _ pn xe tk2 po).ex
  refine ⟨t, p, q F S H σ ρ h D ?_⟩
  unfold mTry at k
  cases q1 : mb ρ with
  | nx ρ1 => rw [q1] at k; exact k
  | brk ρ1 => rw [q1] at k; exact k
  | cnt ρ1 => rw [q1] at k; exact k
  | ret d ρ1 => rw [q1] at k; exact fun v μ1 σ' S' H' l e h' => k v μ1 σ' S' H' (modesLe_trans wx l) e h'
  | bad => rw [q1] at k; exact k
  | exc e ρ1 =>
    rw [q1] at k
    intro μ1 σ' c dct S' H' l ex h1 er
    simp only at k
    split at k
    · rename_i ht
      have ht' : e.tag ∈ tags := by simpa using ht
      obtain ⟨rfl, hd⟩ := er
      refine ⟨errIs e cn, hex e ht', fun eq a na oe pn hz hdd => ?_, fun eq => ?_⟩
      · rw [if_pos eq] at k
        obtain ⟨t2, p2, s2⟩ := (hsu e a oe dct pn ht' hz (fun nl => by cases e <;> first | exact hd | exact absurd rfl (nl _)) hdd).ex
        refine ⟨t2, p2, s2 F S' H' _ _ ((h1.weak l).sete hx ⟨hd, fun z => by cases z⟩) _ ?_⟩
        have k2 := OutOk.mono ex k
        cases q2 : mh e (keep μh ρ1) with
        | nx ρ2 => rw [q2] at k2; exact fun σ2 S2 H2 e2 h2 => k2 _ S2 H2 e2 (h2.gone h')
        | brk ρ2 => rw [q2] at k2; exact fun σ2 S2 H2 e2 h2 => k2 _ S2 H2 e2 (h2.gone hbk)
        | cnt ρ2 => rw [q2] at k2; exact fun σ2 S2 H2 e2 h2 => k2 _ S2 H2 e2 (h2.gone hct)
        | ret d ρ2 => rw [q2] at k2; exact k2
        | exc d ρ2 => rw [q2] at k2; exact k2
        | bad => rw [q2] at k2; exact k2
      · rw [if_neg (by simp [eq])] at k
        exact k μ1 σ' _ dct S' H' (modesLe_trans wx l) ex h1 ⟨rfl, hd⟩
    · exact k.elim
theorem lineOk.some {S H : Hp} {d : Option Addr} {er : Err} (h : lineOk S d er) (e : Ex S H) : d = none ∨ ∃ dd fs, d = some dd ∧ H dd = some (.xd fs) := by
  cases er <;> first | exact .inl h | exact (let ⟨q, a, b⟩ := h; .inr ⟨q, _, a, e _ _ b⟩)
noncomputable def rIsED (K : PySem.W.Frag) (D a : Addr) (d : Option Addr) : List V → Hp → VK → Prop := fun xs H Q => ∃ (c : V) (cv : Value) (b : Bool), xs = [.ref a, c] ∧ (d = none ∨ ∃ dd fs, d = some dd ∧ H dd = some (.xd fs)) ∧ (∀ u, RelV c u → u = cv) ∧ PySem.W.kitOne K (.ref D) cv = some b ∧ Q (.bl b) H
theorem isE_core {X : Cx} {a D : Addr} {oe : Obj} {d : Option Addr} {pins : List (Addr × Obj)} {s : Shared} {σ : L2.St} {H : Hp} {u : Value} {b : Bool} {Q : Value → Shared → Prop} {E : Value → Shared → Prop} {A : Around} (C : ExcC X.K D) (hz : Zc (.ref D) d oe) (hf : ∃ vs, oe.data = .fields vs)
    (I : Inv X pins σ H s) (hget : s.heap.get? a = some oe) (hd : d = none ∨ ∃ dd fs, d = some dd ∧ H dd = some (.xd fs)) (hk : PySem.W.kitOne X.K (.ref D) u = some b) (hq : ∀ tk, Q (.bool b) { s with toks := tk }) :
    wpAny (model X.prog X.w) A (call (.builtin "isinstance") [.ref a, u]) Q E s := by
  obtain ⟨vs, hv⟩ := hf
  have J : ∃ odx, PySem.W.InstAt s.heap a oe D odx := by
    obtain ⟨oc, od, oda, osl⟩ := oe
    obtain ⟨h1, h2⟩ := hz
    dsimp only at h1 h2 hv
    subst h1 h2 hv
    rcases hd with rfl | ⟨dd, fs, rfl, hdd⟩
    · exact ⟨none, hget, rfl, rfl, trivial⟩
    · have hx : ObjOk X.prog X.w H s.heap dd (.xd fs) := I.hok dd _ hdd
      obtain ⟨mA, hns, hr⟩ := hx
      obtain ⟨od, ho, hl⟩ := lookIn_ns hns
      exact ⟨some od, hget, rfl, rfl, ho⟩
  obtain ⟨odx, J⟩ := J
  exact PySem.W.kia_one (PySem.W.kitx_exc2 C.hg C.hk C.hs C.hd C.ha C.hn C.ht C.hm) I.kIn J hk (fun z => nomatch z) hq
theorem call_isED {X : Cx} {a D : Addr} {oe : Obj} {d : Option Addr} (hpn : (a, oe) ∈ X.pn) (C : ExcC X.K D) (hz : Zc (.ref D) d oe) (hf : ∃ vs, oe.data = .fields vs) : CallR X (.builtin "isinstance") (rIsED X.K D a d) := by
  intro pins s σ H xs us Q I r h
  obtain ⟨c, cv, b, rfl, hd, hcv, e, q⟩ := h
  cases r with
  | cons rx rr =>
    cases rr with
    | cons rt rr =>
      cases rr
      cases rx
      have ec := hcv _ rt
      subst ec
      obtain ⟨hget, _⟩ := I.pin (a, oe) (List.mem_append.mpr (.inl hpn))
      exact isE_core C hz hf I hget hd e fun tk => ⟨.bl b, H, I.kept (t' := tk) fun _ _ z => z, rfl, q⟩
structure ExcCs (K : PySem.W.Frag) (G : Cl) (tags : List Nat) : Prop where
  ex : ∀ t ∈ tags, ExcC K (G.eA t)
theorem je_isE {y n x : Str} {i cn : Nat} {a : Addr} {oe : Obj} {e : Err} {tags : List Nat} {d : Option Addr} {p p1 p2 pos : Pos} (hpn : (a, oe) ∈ X.pn) (hI : IsO X.K X.mg G x cn tags) (hC : ExcCs X.K G tags) (ht : e.tag ∈ tags) (hz : Zc (.ref (G.eA e.tag)) d oe) (hf : ∃ vs, oe.data = .fields vs) (hy : X.mg y = none)
    (hm : μ[i]? = some (.e ⟨a, d, e, false⟩)) (hN : X.N[i]? = some n := by rfl) (hx : Vis X.env.scope n := by first | exact Or.inl rfl | exact Or.inr (Or.inl rfl) | exact Or.inr (Or.inr rfl)) (hd : (n == ("__debug__" : Str)) = false := by decide) (hcd : (n == ("__classdict__" : Str)) = false := by decide)
    (hgy : Gl X y := by rfl) (hg : Gl X x := by rfl) (hvy : bootBuiltins y = some (.builtin "isinstance") := by decide +kernel) (hny : y ≠ "__name__" := by decide) (hdy : (y == ("__debug__" : Str)) = false := by decide) (hdb : (x == ("__debug__" : Str)) = false := by decide)
    (h1 : starEach [.Name n p1, .Name x p2] X.env = (false, eval (.Name n p1) X.env) :: starEach [.Name x p2] X.env := by rfl) (h2 : starEach [.Name x p2] X.env = (false, eval (.Name x p2) X.env) :: starEach [] X.env := by rfl) (hpl : (backTo pos (starEach [.Name x p2] X.env)).any (·.1) = false := by rfl) :
    JE X G E .d μ (.Call (.Name y p) [.Name n p1, .Name x p2] [] pos) (mC (.bl (errIs e cn))) := by
  obtain ⟨A, hmg, hk⟩ := hI.ex
  refine ⟨_, pe_callB (call_isED hpn (hC.ex _ ht) hz hf) hgy hy hvy (pa_cons (pe_var hN hx hd hcd) (pa_cons (pe_glob (v := .ref A) hg hmg rfl hdb) pa_nil h2) h1) hny hdy h1 hpl, fun F S H σ ρ h Q k => ?_⟩
  exact ⟨_, h.evar hm, _, _, _, rfl, (h.eok hm).1.some h.sh, fun u z => z, hk e ht, k _ S H (Evl.Ex.refl S) (h.push (.bl _))⟩
theorem defD_mk0 {x qual : Str} {params : Arguments} {body : List Stmt} {scope : Scope} {dvs : List V} {f : Addr} {fd : FuncData} {ps : List Str} {lv n : Nat} {rm : Mode} {m : MP} (o : FnOk P w K mg base (L2.CX P w) lv f fd ps (spP K G n rm m)) (hm : mg x = some (.ref f)) (hk : PySem.W.keepIn K (.ref f) = true) (F : FunD K x qual params body scope dvs [] f fd) (hd : dvs ≠ []) (hn : ps.length + (dvs.length - dvs.length) = ps.length)
    (h : ∀ (T : Addr) (kV doc pm : Value) (an : Option Addr) (cdv ct : Value) (us its : List Value), us.length = ps.length → its.length = dvs.length →
      ∃ k, bindArgs (PySem.W.fnOf x qual params body scope (.ref T) kV doc pm an cdv ct) ⟨us, []⟩ = seqItems? (.ref T) >>= k ∧ k (some its.toArray) = pure (ps.zip (us ++ its.drop dvs.length))) : DefO P w K mg base G x n rm m lv [] := by
  obtain ⟨ds, q1, q2⟩ := F.binds1 ps.length dvs.length hd hn h
  rw [List.drop_length] at q1
  cases q1
  exact ⟨_, _, _, _, [], o, hm, hk, q2, .nil, fun _ => .nil⟩
theorem kit_ref {A : Addr} {t : Value} {b : Bool} (hdct : PySem.W.hasDictIn K A = true) (ht : PySem.W.typeIn K (.ref A) = some (.type "type")) (h5 : PySem.W.subIn K (.ref A) (.ref A) = some true) (h4 : PySem.W.subIn K t (.ref A) = some b) : PySem.W.kitOne K t (.ref A) = some b := by
  obtain ⟨cd, hc, _⟩ := PySem.W.any_some hdct
  unfold PySem.W.kitOne
  split
  · rename_i h
    have e : t = .ref A := beq_iff_eq.mp h
    subst e
    rw [← h4, h5]
  · show (if ((PySem.W.clsIn K A).isSome && PySem.W.typeIn K (.ref A) == some (.type "type")) = true then PySem.W.subIn K t (.ref A) else none) = some b
    rw [hc, ht]
    exact h4
end
end MR
namespace MR
open PySem L2 PySem.Spec PyProof.Rows
section
variable {K : PySem.W.Frag} {G : Cl} {E : XS} {C : SC} {μ μ' μ1 : List Mode} {r : Mode} {X : Cx} {F : Fo} {S H : Hp} {σ : L2.St} {ρ : List D}
noncomputable def relabelS (scope sc : Scope) : Scope := { scope with names := scope.names.map fun (n, k) => if (k == .free && sc.kind == .function && sc.names.lookup n == some .cell) then (n, .cell) else (n, k) }
theorem relabel_eq {scope : Scope} {env : Env} : relabel scope env = relabelS scope env.scope := rfl
theorem dat_items {v : V} {d : D} {ds : List D} (h : Dat K G S v d) (e : itemsOf d = some ds) : ∃ a vs, v = .ref a ∧ SqL K S a vs ∧ DatL K G S vs ds := by
  cases h with
  | lst a1 a2 => cases e; exact ⟨_, _, rfl, .inl (.inl a1), a2⟩
  | scr a1 => cases e; exact ⟨_, _, rfl, a1, datL_ints _⟩
  | _ => cases e
noncomputable def zip2 : List D → Option (List D)
  | [x, y] => match itemsOf x, itemsOf y with
    | some a, some b => some (List.zipWith (fun u v => .tup [u, v]) a b)
    | _, _ => none
  | _ => none
theorem it_zip {a b : Addr} {xs ys : List V} {ds es : List D} (h1 : SqL K S a xs) (h2 : SqL K S b ys) (q1 : DatL K G S xs ds) (q2 : DatL K G S ys es) : ItOk K G F S (Itz K a b) (List.zipWith (fun u v => .tup [u, v]) ds es) := by
  have w := walk_zip (K := K) (a := a) (b := b) (xs := xs) (ys := ys) rfl
  have l : (List.zipWith (fun u v => D.tup [u, v]) ds es).length = min xs.length ys.length := by rw [List.length_zipWith, q1.length, q2.length]
  refine ⟨fun i H hi e _ => w.goes i H (by rw [← l]; exact hi) ⟨Evl.ex_l e h1, Evl.ex_l e h2⟩, fun H e _ => by rw [l]; exact w.stops H ⟨Evl.ex_l e h1, Evl.ex_l e h2⟩, fun i H x H' d hd e _ y => .inr ?_⟩
  have hi : i < min xs.length ys.length := by rw [← l]; exact (List.getElem?_eq_some_iff.mp hd).1
  obtain ⟨T, x1, y1, z1, z2, z3, z4, z5⟩ := w.yields i H x H' hi ⟨Evl.ex_l e h1, Evl.ex_l e h2⟩ y
  obtain ⟨d1, e1, r1⟩ := q1.getV z4
  obtain ⟨d2, e2, r2⟩ := q2.getV z5
  rw [List.getElem?_zipWith, e1, e2] at hd
  cases hd
  exact ⟨T, [x1, y1], [d1, d2], z1, z2, z3, rfl, .cons r1 (.cons r2 .nil)⟩
theorem ji_zip2 {e e2 : Expr} {a : MA} {p pos tpos : Pos} {elts : List Expr} {kk : Nat} (hm : X.mg "zip" = none) (he : JA X G E μ [e, e2] a) (hg : Gl X "zip" := by rfl) (hs : starEach [e, e2] X.env = (false, eval e X.env) :: starEach [e2] X.env := by rfl) (hpl : (backTo pos (starEach [e2] X.env)).any (·.1) = false := by rfl) :
    JI X G E μ (.Tuple elts kk tpos) (.Call (.Name "zip" p) [e, e2] [] pos) (mRng zip2 a) := by
  obtain ⟨t1, p1, s1⟩ := he.ex
  refine ⟨_, pi_zip hg hm p1 hs hpl, fun F S H σ ρ h R k => s1 F S H σ ρ h _ ?_⟩
  unfold mRng at k
  cases q : a ρ with
  | ok ds ρ1 =>
    rw [q, bind_ok] at k
    intro vs S1 H1 e1 h1 q1
    match ds, q1, k with
    | [x, y], .cons q2 (.cons q3 .nil), k =>
      cases z1 : itemsOf x with
      | none =>
        have k' : IOk X.K G E μ F S σ R (RR.of (match itemsOf x, itemsOf y with | some a, some b => some (List.zipWith (fun u v => .tup [u, v]) a b) | _, _ => none) ρ1) := k
        rw [z1] at k'
        exact k'.elim
      | some as =>
        cases z2 : itemsOf y with
        | none =>
          have k' : IOk X.K G E μ F S σ R (RR.of (match itemsOf x, itemsOf y with | some a, some b => some (List.zipWith (fun u v => .tup [u, v]) a b) | _, _ => none) ρ1) := k
          rw [z1, z2] at k'
          exact k'.elim
        | some bs =>
          have k' : IOk X.K G E μ F S σ R (RR.of (match itemsOf x, itemsOf y with | some a, some b => some (List.zipWith (fun u v => .tup [u, v]) a b) | _, _ => none) ρ1) := k
          rw [z1, z2] at k'
          obtain ⟨a1, v1, rfl, g1, g2⟩ := dat_items q2 z1
          obtain ⟨a2, v2, rfl, g3, g4⟩ := dat_items q3 z2
          exact ⟨a1, a2, _, _, rfl, Evl.ex_l h1.sh g1, Evl.ex_l h1.sh g3, k' _ S1 H1 e1 h1 (it_zip g1 g3 g2 g4)⟩
  | exc e1 ρ1 => rw [q] at k; exact k
  | bad => rw [q] at k; exact k
noncomputable def enum1 : List D → Option (List D)
  | [x] => (itemsOf x).map fun a => a.mapIdx fun i d => .tup [.int (i : Nat), d]
  | _ => none
theorem it_enum {a : Addr} {xs : List V} {ds : List D} (h1 : SqL K S a xs) (q1 : DatL K G S xs ds) : ItOk K G F S (Ite K a) (ds.mapIdx fun i d => .tup [.int (i : Nat), d]) := by
  have w := walk_enum (K := K) (a := a) (xs := xs)
  have l : (ds.mapIdx fun i d => D.tup [.int (i : Nat), d]).length = xs.length := by rw [List.length_mapIdx, q1.length]
  refine ⟨fun i H hi e _ => w.goes i H (by rw [← l]; exact hi) (Evl.ex_l e h1), fun H e _ => by rw [l]; exact w.stops H (Evl.ex_l e h1), fun i H x H' d hd e _ y => .inr ?_⟩
  have hi : i < xs.length := by rw [← l]; exact (List.getElem?_eq_some_iff.mp hd).1
  obtain ⟨T, x1, y1, z1, z2, z3, z4, z5⟩ := w.yields i H x H' hi (Evl.ex_l e h1) y
  cases z4
  obtain ⟨d2, e2, r2⟩ := q1.getV z5
  rw [List.getElem?_mapIdx, e2] at hd
  cases hd
  exact ⟨T, _, [.int (i : Nat), d2], z1, z2, z3, rfl, .cons (.int _) (.cons r2 .nil)⟩
theorem ji_enum {e : Expr} {a : MA} {p pos tpos : Pos} {elts : List Expr} {kk : Nat} (hm : X.mg "enumerate" = none) (he : JA X G E μ [e] a) (hg : Gl X "enumerate" := by rfl) (hs : starEach [e] X.env = [(false, eval e X.env)] := by rfl) :
    JI X G E μ (.Tuple elts kk tpos) (.Call (.Name "enumerate" p) [e] [] pos) (mRng enum1 a) := by
  obtain ⟨t1, p1, s1⟩ := he.ex
  refine ⟨_, pi_enum hg hm p1 hs, fun F S H σ ρ h R k => s1 F S H σ ρ h _ ?_⟩
  unfold mRng at k
  cases q : a ρ with
  | ok ds ρ1 =>
    rw [q, bind_ok] at k
    intro vs S1 H1 e1 h1 q1
    match ds, q1, k with
    | [x], .cons q2 .nil, k =>
      have k' : IOk X.K G E μ F S σ R (RR.of ((itemsOf x).map fun a => a.mapIdx fun i d => .tup [.int (i : Nat), d]) ρ1) := k
      cases z1 : itemsOf x with
      | none => rw [z1] at k'; exact k'.elim
      | some as =>
        rw [z1] at k'
        obtain ⟨a1, v1, rfl, g1, g2⟩ := dat_items q2 z1
        exact ⟨a1, _, rfl, Evl.ex_l h1.sh g1, k' _ S1 H1 e1 h1 (it_enum g1 g2)⟩
  | exc e1 ρ1 => rw [q] at k; exact k
  | bad => rw [q] at k; exact k
end
end MR
namespace MR
open PySem L2 PySem.Spec PyProof.Rows
noncomputable def D.size : D → Nat
  | .lst ds => ds.length
  | _ => 0
section
variable {K : PySem.W.Frag} {G : Cl} {E : XS} {C : SC} {μ μ' μ1 : List Mode} {r : Mode} {X : Cx} {F : Fo} {S H : Hp} {σ : L2.St} {ρ : List D}
noncomputable abbrev MO := List D → RR (Option Int)
noncomputable def OOk (K : PySem.W.Frag) (G : Cl) (E : XS) (μ : List Mode) (F : Fo) (S : Hp) (σ : L2.St) (Q : Option Int → Hp → Prop) : RR (Option Int) → Prop
  | .ok o ρ' => ∀ S' H', Ex S S' → EnvOk K G F S' H' μ σ ρ' → Q o H'
  | .exc e ρ' => XOk K G E μ F S σ e ρ'
  | .bad => False
theorem OOk.mono {S' : Hp} {Q : Option Int → Hp → Prop} (x : Ex S S') : ∀ {o : RR (Option Int)}, OOk K G E μ F S σ Q o → OOk K G E μ F S' σ Q o
  | .ok _ _, k => fun S2 H2 e2 h2 => k S2 H2 (x.trans e2) h2
  | .exc _ _, k => XOk.mono x k
  | .bad, k => k
structure JO (X : Cx) (G : Cl) (E : XS) (μ : List Mode) (e : Option Expr) (m : MO) : Prop where
  ex : ∃ t, PO X e t ∧ ∀ F S H σ ρ, EnvOk X.K G F S H μ σ ρ → ∀ Q, OOk X.K G E μ F S σ Q (m ρ) → t σ H Q
noncomputable def mNoPart : MO := fun ρ => .ok none ρ
noncomputable def asInt : D → Option (Option Int)
  | .int i => some (some i)
  | _ => none
noncomputable def mPart (a : ME) : MO := fun ρ => (a ρ).bind fun d ρ1 => RR.of (asInt d) ρ1
theorem jo_none : JO X G E μ none mNoPart := ⟨_, po_none, fun F S H σ ρ h Q k => k S H (Evl.Ex.refl S) h⟩
theorem jo_some {e : Expr} {a : ME} (he : JE X G E .d μ e a) : JO X G E μ (some e) (mPart a) := by
  obtain ⟨t1, p1, s1⟩ := he.ex
  refine ⟨_, po_some p1, fun F S H σ ρ h Q k => s1 F S H σ ρ h _ ?_⟩
  unfold mPart at k
  cases q : a ρ with
  | ok d ρ1 =>
    rw [q, bind_ok] at k
    intro v S1 H1 e1 h1
    have hd := h1.head
    cases hd with
    | int i => exact ⟨i, rfl, k S1 H1 e1 h1.tail⟩
    | _ => exact k.elim
  | exc e ρ1 => rw [q] at k; exact k
  | bad => rw [q] at k; exact k
noncomputable def cutD {α : Type} (xs : List α) (lo hi : Option Int) : List α := (xs.drop (HT.sIx xs.length 0 lo)).take (HT.sIx xs.length xs.length hi - HT.sIx xs.length 0 lo)
theorem cut_datL {vs : List V} {ds : List D} (h : DatL K G S vs ds) (lo hi : Option Int) : DatL K G S (cutV vs lo hi) (cutD ds lo hi) := by
  unfold cutV cutD
  rw [h.length]
  exact (h.drop _).take _
noncomputable def fSl (lo hi : Option Int) : D → Option D
  | .lst ds => some (.lst (cutD ds lo hi))
  | .scr ns => some (.lst ((cutD ns lo hi).map .int))
  | .tup ds => some (.tup (cutD ds lo hi))
  | .str z => if z.length ≤ sizeLine then some (.str (cutS z lo hi)) else none
  | _ => none
noncomputable def mSl (f : Option Int → Option Int → D → Option D) (a : ME) (lo hi : MO) : ME := fun ρ => (a ρ).bind fun d ρ1 => (lo ρ1).bind fun l ρ2 => (hi ρ2).bind fun u ρ3 => RR.of (f l u d) ρ3
theorem cut_ints (ns : List Int) (lo hi : Option Int) : cutV (ns.map V.int) lo hi = (cutD ns lo hi).map V.int := by
  unfold cutV cutD
  rw [List.length_map, List.map_take, List.map_drop]
noncomputable def rSlAll (K : PySem.W.Frag) : V → Option Int → Option Int → Hp → VK → Prop := fun x lo hi H Q => rSlL K x lo hi H Q ∨ (rSlA K x lo hi H Q ∨ rSlS x lo hi H Q)
theorem sl_sound {v : V} {d z : D} {lo hi : Option Int} {Q : VK} (h : EnvOk K G F S H μ σ ρ) (q : Dat K G S v d) (e : fSl lo hi d = some z) (k : RVal K G μ F S σ ρ .d z Q) : rSlAll K v lo hi H Q := by
  cases q with
  | lst a1 a2 =>
    cases e
    exact .inl ⟨_, _, rfl, .inl (.inl (h.sh _ _ a1)), fun p hp => RVal.lst k h (cut_datL a2 lo hi) hp⟩
  | scr a1 =>
    cases e
    exact .inl ⟨_, _, rfl, Evl.ex_l h.sh a1, fun p hp => by rw [cut_ints]; exact RVal.lst k h (datL_ints _) hp⟩
  | tup a1 a2 =>
    cases e
    refine .inr (.inl ⟨_, _, rfl, Evl.ex_t h.sh a1, fun w => ?_, fun _ p hp => RVal.tup k h (cut_datL a2 lo hi) hp⟩)
    rename_i a vs ds
    have e2 : cutD ds lo hi = ds := by
      have w1 := w.1
      have w2 := w.2
      rw [a2.length] at w1 w2
      unfold cutD
      rw [w1, w2, List.drop_zero, Nat.sub_zero, List.take_length]
    rw [e2] at k
    exact k _ S H (Evl.Ex.refl S) (h.push (.tup a1 a2))
  | str x =>
    have e' : (if x.length ≤ sizeLine then some (D.str (cutS x lo hi)) else none) = some z := e
    split at e'
    · rename_i hl
      cases e'
      exact .inr (.inr ⟨x, rfl, hl, k _ S H (Evl.Ex.refl S) (h.push (.str _))⟩)
    · cases e'
  | _ => cases e
theorem je_slice {e : Expr} {lo hi : Option Expr} {a : ME} {ml mh : MO} {p2 pos : Pos} (he : JE X G E .d μ e a) (hl : JO X G E μ lo ml) (hh : JO X G E μ hi mh) : JE X G E .d μ (.Subscript e (.Slice lo hi none p2) pos) (mSl fSl a ml mh) := by
  obtain ⟨t1, p1, s1⟩ := he.ex
  obtain ⟨t2, p2', s2⟩ := hl.ex
  obtain ⟨t3, p3, s3⟩ := hh.ex
  refine ⟨_, pe_slice (r := rSlAll X.K) (sl_list.or (sl_tupA.or sl_str)) p1 p2' p3, fun F S H σ ρ h Q k => s1 F S H σ ρ h _ ?_⟩
  unfold mSl at k
  cases q : a ρ with
  | ok d ρ1 =>
    rw [q, bind_ok] at k
    intro v S1 H1 e1 h1
    have hd := h1.head
    refine s2 F S1 H1 σ ρ1 h1.tail _ ?_
    have k1 := EOk.mono e1 k
    cases q2 : ml ρ1 with
    | ok l ρ2 =>
      rw [q2, bind_ok] at k1
      intro S2 H2 e2 h2
      refine s3 F S2 H2 σ ρ2 h2 _ ?_
      have k2 := EOk.mono e2 k1
      cases q3 : mh ρ2 with
      | ok u ρ3 =>
        rw [q3, bind_ok] at k2
        intro S3 H3 e3 h3
        have k3 := EOk.mono e3 k2
        cases q4 : fSl l u d with
        | none => rw [q4] at k3; exact k3.elim
        | some z => rw [q4] at k3; exact sl_sound h3 (hd.mono (e2.trans e3)) q4 k3
      | exc e4 ρ3 => rw [q3] at k2; exact k2
      | bad => rw [q3] at k2; exact k2
    | exc e4 ρ3 => rw [q2] at k1; exact k1
    | bad => rw [q2] at k1; exact k1
  | exc e1 ρ1 => rw [q] at k; exact k
  | bad => rw [q] at k; exact k
noncomputable def setD (ds : List D) (i : Int) (d : D) : Option (List D) := (ixN ds.length i).map fun j => ds.set j d
noncomputable def bSetO (i : Nat) (a : ME) : MB := fun d ρ => match a ρ with
  | .ok (.int k) ρ1 => match lstAt i ρ1 with
    | some ds => (setD ds k d).map fun es => ρ1.set i (.lst es)
    | none => none
  | _ => none
theorem jg_setO {x : Str} {i : Nat} {e : Expr} {a : ME} {p pos : Pos} (he : JE X G (fun _ => E0) .d μ e a) (hm : μ[i]? = some .o := by rfl) (hN : X.N[i]? = some x := by rfl) (hx : Vis X.env.scope x := by first | exact Or.inl rfl | exact Or.inr (Or.inl rfl) | exact Or.inr (Or.inr rfl)) (hd : (x == ("__debug__" : Str)) = false := by decide) (hcd : (x == ("__classdict__" : Str)) = false := by decide)
    (ha : ∀ v, assign (.Subscript (.Name x p) e pos) X.env v = (do
      let ov ← holding [v] (eval (.Name x p) X.env)
      let iv ← holding [v, ov] (eval e X.env)
      standAt pos
      holding [v, ov, iv] (setItem ov iv v)
      release [v, ov, iv] []) := by intro _; rfl) : JG X G μ μ (.Subscript (.Name x p) e pos) (bSetO i a) := by
  obtain ⟨t1, p1, s1⟩ := he.ex
  refine ⟨_, pg_sub (pe_var hN hx hd hcd) p1 set_list ha, fun F S H σ ρ v d ρ' h q z Q k => ?_⟩
  obtain ⟨p, q1, _⟩ := h.ovar hm
  refine ⟨_, q1, s1 F S H σ ρ h _ ?_⟩
  unfold bSetO at z
  cases q2 : a ρ with
  | ok y ρ1 =>
    rw [q2] at z
    cases y with
    | int kk =>
      dsimp only at z
      cases q3 : lstAt i ρ1 with
      | none => rw [q3] at z; cases z
      | some ds =>
        rw [q3] at z
        dsimp only at z
        cases q4 : setD ds kk d with
        | none => rw [q4] at z; cases z
        | some es =>
          rw [q4] at z
          cases z
          intro w S1 H1 e1 h1
          have hw := h1.head
          cases hw
          obtain ⟨vs, z1, z2⟩ := h1.tail.olst hm q1 q3
          unfold setD at q4
          cases q5 : ixN ds.length kk with
          | none => rw [q5] at q4; cases q4
          | some j =>
            rw [q5] at q4
            cases q4
            refine ⟨p, vs, kk, j, rfl, rfl, z1, by rw [z2.length]; exact q5, k _ S1 _ e1 (h1.tail.chO hm q1 (.lst upd_same (DatL.set (q.mono e1) j z2).ownL))⟩
    | _ => cases z
  | exc _ _ => rw [q2] at z; cases z
  | bad => rw [q2] at z; cases z
end
end MR
namespace MR
open PySem L2 PySem.Spec PyProof.Rows
section
variable {K : PySem.W.Frag} {G : Cl} {P : Program} {w : World} {mg : Str → Option Value} {base : Heap}
structure FnG (P : Program) (w : World) (K : PySem.W.Frag) (mg : Str → Option Value) (base : Heap) (f : Addr) (fd : FuncData) (ps : List Str) (sp : Sp) : Prop where
  go : ∀ (st : Shared) (hp : Hp) (us : List Value) (vs : List V) (Q : VK) (E : XK), Env0 P w K mg base callerA [] st hp → BindsTo st fd ⟨us, []⟩ (ps.zip us) → Vals vs us → sp vs hp Q E →
    codeAny (model P w) callerA (.call (.ref f) ⟨us, []⟩) (CR (L2.CX P w) [] P w hp st Q E) st
theorem FnG.imp {f : Addr} {fd : FuncData} {ps : List Str} {sp sp' : Sp} (F : FnG P w K mg base f fd ps sp) (h : ∀ vs H Q E, sp' vs H Q E → sp vs H Q E) : FnG P w K mg base f fd ps sp' :=
  ⟨fun st hp us vs Q E e b v s => F.go st hp us vs Q E e b v (h _ _ _ _ s)⟩
end
end MR
namespace MR
open PySem L2 PySem.Spec PyProof.Rows
section
variable {K : PySem.W.Frag} {G : Cl} {E : XS} {C : SC} {μ μ' μ1 : List Mode} {r : Mode} {X : Cx} {F : Fo} {S S' H H' : Hp} {σ : L2.St} {ρ : List D}
noncomputable def ntOnly (o : Option HO) : Option HO := o.filter noTup
theorem ntOnly_some {o : Option HO} {u : HO} (h : ntOnly o = some u) : o = some u ∧ noTup u = true := Option.filter_eq_some_iff.mp h
theorem ntOnly_of {u : HO} (h : noTup u = true) : ntOnly (some u) = some u := by simp [ntOnly, h]
noncomputable def Fo.lend (F : Fo) (H : Hp) (fp : List Addr) : Fo := ⟨fun a => if a ∈ fp then ntOnly (H a) else F a, F.pin, fun a o q => by
  split at q
  · exact (ntOnly_some q).2
  · exact F.nt a o q⟩
theorem Fo.lend_in {F : Fo} {H : Hp} {fp : List Addr} {a : Addr} (h : a ∈ fp) : F.lend H fp a = ntOnly (H a) := if_pos h
theorem Fo.lend_out {F : Fo} {H : Hp} {fp : List Addr} {a : Addr} (h : a ∉ fp) : F.lend H fp a = F a := if_neg h
structure Fp (F : Fo) (S H : Hp) (fp : List Addr) : Prop where
  nd : fp.Nodup
  fr : ∀ a ∈ fp, S a = none ∧ F a = none
  th : ∀ a ∈ fp, ∃ o, H a = some o ∧ noTup o = true
theorem EnvOk.lend {i : Nat} {m : Mode} (h : EnvOk K G F S H μ σ ρ) (hm : μ[i]? = some m) : ∃ fp, SlotOk K G F.pin S H m (σ[i]?) (ρ.getD i .non) fp ∧ Fp F S H fp ∧ EnvOk K G (F.lend H fp) S H (μ.set i .x) σ ρ := by
  obtain ⟨fp, ⟨f1, f2, f3⟩, f4, sl, th⟩ := h.fps
  have hi : i < μ.length := (List.getElem?_eq_some_iff.mp hm).1
  refine ⟨fp i, sl i m hm, ⟨f3 i, f1 i, th i⟩, h.sh, fun a o q => ?_, by simp [h.ls], by simp [h.lr], fun j => if j = i then [] else fp j, ⟨?_, ?_, ?_⟩, ?_, ?_⟩
  · by_cases z : a ∈ fp i
    · rw [Fo.lend_in z] at q
      exact ⟨(ntOnly_some q).1, (f1 i a z).1⟩
    · rw [Fo.lend_out z] at q
      exact h.fk a o q
  · intro j a ha
    by_cases z : j = i
    · rw [if_pos z] at ha; cases ha
    · rw [if_neg z] at ha
      refine ⟨(f1 j a ha).1, ?_⟩
      rw [Fo.lend_out fun w => z (f2 j i a ha w)]
      exact (f1 j a ha).2
  · intro j k a ha hb
    by_cases z : j = i
    · rw [if_pos z] at ha; cases ha
    · by_cases z2 : k = i
      · rw [if_pos z2] at hb; cases hb
      · rw [if_neg z] at ha
        rw [if_neg z2] at hb
        exact f2 j k a ha hb
  · intro j
    show (if j = i then [] else fp j).Nodup
    split
    · exact List.nodup_nil
    · exact f3 j
  · intro j hj
    show (if j = i then [] else fp j) = []
    split
    · rfl
    · exact f4 j (by simpa using hj)
  · intro j m' e
    by_cases z : j = i
    · subst z
      rw [List.getElem?_set_self hi] at e
      cases e
      exact if_pos rfl
    · rw [List.getElem?_set_ne (Ne.symm z)] at e
      show SlotOk K G F.pin S H m' _ _ (if j = i then [] else fp j)
      rw [if_neg z]
      exact sl j m' e
theorem EnvOk.unlend {i : Nat} {fp fp' : List Addr} {H0 H2 : Hp} {m' : Mode} {d' : D} (h : EnvOk K G (F.lend H0 fp) S H (μ.set i .x) σ ρ) (hi : i < μ.length) (f : Fp F S H0 fp) (off : ∀ a, a ∉ fp → H2 a = H a)
    (hs : SlotOk K G F.pin S H2 m' (σ[i]?) d' fp') (hn : fp'.Nodup) (hp : ∀ a ∈ fp', a ∈ fp) : EnvOk K G F S H2 (μ.set i m') σ (ρ.set i d') := by
  obtain ⟨fq, ⟨f1, f2, f3⟩, f4, sl, th⟩ := h.fps
  have away : ∀ j a, a ∈ fq j → a ∉ fp := fun j a ha hb => by
    have := (f1 j a ha).2
    rw [Fo.lend_in hb] at this
    obtain ⟨o, e, nt0⟩ := f.th a hb
    rw [e, ntOnly_of nt0] at this
    cases this
  have hls : σ.length = μ.length := by have := h.ls; simpa using this
  have hlr : ρ.length = μ.length := by have := h.lr; simpa using this
  refine ⟨fun a o e => ?_, fun a o e => ?_, by simp [hls], by simp [hlr], fun j => if j = i then fp' else fq j, ⟨?_, ?_, ?_⟩, ?_, ?_⟩
  · rw [off a fun z => by have := (f.fr a z).1; rw [e] at this; cases this]
    exact h.sh _ _ e
  · have z : a ∉ fp := fun z => by have := (f.fr a z).2; rw [e] at this; cases this
    have q := h.fk a o (by rw [Fo.lend_out z]; exact e)
    exact ⟨by rw [off a z]; exact q.1, q.2⟩
  · intro j a ha
    by_cases z : j = i
    · rw [if_pos z] at ha
      exact f.fr a (hp a ha)
    · rw [if_neg z] at ha
      have := f1 j a ha
      rw [Fo.lend_out (away j a ha)] at this
      exact this
  · intro j k a ha hb
    by_cases z : j = i
    · by_cases z2 : k = i
      · omega
      · rw [if_pos z] at ha
        rw [if_neg z2] at hb
        exact absurd (hp a ha) (away k a hb)
    · by_cases z2 : k = i
      · rw [if_neg z] at ha
        rw [if_pos z2] at hb
        exact absurd (hp a hb) (away j a ha)
      · rw [if_neg z] at ha
        rw [if_neg z2] at hb
        exact f2 j k a ha hb
  · intro j
    show (if j = i then fp' else fq j).Nodup
    split
    · exact hn
    · exact f3 j
  · intro j hj
    rw [List.length_set] at hj
    show (if j = i then fp' else fq j) = []
    rw [if_neg (by omega)]
    exact f4 j (by simpa using hj)
  · intro j m2 e
    by_cases z : j = i
    · subst z
      rw [List.getElem?_set_self hi] at e
      cases e
      have : (ρ.set j d').getD j .non = d' := by simp [List.getD, List.getElem?_set_self (show j < ρ.length by omega)]
      rw [this]
      show SlotOk K G F.pin S H2 m' _ _ (if j = j then fp' else fq j)
      rw [if_pos rfl]
      exact hs
    · rw [List.getElem?_set_ne (Ne.symm z)] at e
      have := sl j m2 (by rw [List.getElem?_set_ne (Ne.symm z)]; exact e)
      have e2 : (ρ.set i d').getD j .non = ρ.getD j .non := by simp [List.getD, List.getElem?_set_ne (Ne.symm z)]
      rw [e2]
      show SlotOk K G F.pin S H2 m2 _ _ (if j = i then fp' else fq j)
      rw [if_neg z]
      exact this.mono (Evl.Ex.refl S) fun a ha => off a (away j a ha)
theorem EnvOk.unlend0 {i : Nat} {fp : List Addr} {H0 : Hp} {S0 : Hp} {m : Mode} {d : D} (h : EnvOk K G (F.lend H0 fp) S H (μ.set i .x) σ ρ) (hm : μ[i]? = some m) (f : Fp F S0 H0 fp) (e : Ex S0 S)
    (hs : SlotOk K G F.pin S0 H0 m (σ[i]?) d fp) : EnvOk K G F S H μ σ (ρ.set i d) := by
  have hi : i < μ.length := (List.getElem?_eq_some_iff.mp hm).1
  have st : ∀ a ∈ fp, H a = H0 a ∧ S a = none := fun a ha => by
    obtain ⟨o, q, nt0⟩ := f.th a ha
    have := h.fk a o (by rw [Fo.lend_in ha, q, ntOnly_of nt0])
    exact ⟨this.1.trans q.symm, this.2⟩
  have f' : Fp F S H0 fp := ⟨f.nd, fun a ha => ⟨(st a ha).2, (f.fr a ha).2⟩, f.th⟩
  have := h.unlend (m' := m) (d' := d) hi f' (fun a _ => rfl) (hs.mono e fun a ha => (st a ha).1) f.nd fun a ha => ha
  have e3 : (μ.set i .x).set i m = μ := by
    rw [List.set_set]
    apply List.ext_getElem?
    intro j
    by_cases z : j = i
    · subst z; rw [List.getElem?_set_self hi, hm]
    · rw [List.getElem?_set_ne (Ne.symm z)]
  have e4 : μ.set i m = μ := by rw [List.set_set] at e3; exact e3
  rwa [e4] at this
theorem EnvOk.joinS {m : Mode} {sv : Option V} {d : D} {fp : List Addr} {H0 : Hp} (h : EnvOk K G (F.lend H0 fp) S H μ σ ρ) (f : Fp F S H0 fp) (hs : SlotOk K G F.pin S H m (some sv) d fp) : EnvOk K G F S H (m :: μ) (sv :: σ) (d :: ρ) := by
  obtain ⟨fq, ⟨f1, f2, f3⟩, f4, sl, th⟩ := h.fps
  have away : ∀ j a, a ∈ fq j → a ∉ fp := fun j a ha hb => by
    have := (f1 j a ha).2
    rw [Fo.lend_in hb] at this
    obtain ⟨o, e, nt0⟩ := f.th a hb
    rw [e, ntOnly_of nt0] at this
    cases this
  refine ⟨h.sh, fun a o e => ?_, by simp [h.ls], by simp [h.lr], fun j => match j with | 0 => fp | j + 1 => fq j, ⟨?_, ?_, ?_⟩, ?_, ?_⟩
  · have z : a ∉ fp := fun z => by have := (f.fr a z).2; rw [e] at this; cases this
    exact h.fk a o (by rw [Fo.lend_out z]; exact e)
  · intro j a ha
    cases j with
    | zero => exact f.fr a ha
    | succ j =>
      have := f1 j a ha
      rw [Fo.lend_out (away j a ha)] at this
      exact this
  · intro j k a ha hb
    cases j with
    | zero =>
      cases k with
      | zero => rfl
      | succ k => exact absurd ha (away k a hb)
    | succ j =>
      cases k with
      | zero => exact absurd hb (away j a ha)
      | succ k => exact congrArg (· + 1) (f2 j k a ha hb)
  · intro j
    cases j with
    | zero => exact f.nd
    | succ j => exact f3 j
  · intro j hj
    cases j with
    | zero => simp at hj
    | succ j => exact f4 j (by simpa using hj)
  · intro j m2 e
    cases j with
    | zero =>
      simp only [List.getElem?_cons_zero, Option.some.injEq] at e
      subst e
      simpa using hs
    | succ j =>
      have := sl j m2 (by simpa using e)
      simpa [Fo.lend] using this
noncomputable def restB (H S : Hp) (fp : List Addr) : Hp := fun a => if a ∈ fp then none else rest H S a
theorem restB_some {fp : List Addr} {a : Addr} {o : HO} (h : restB H S fp a = some o) : H a = some o ∧ S a = none ∧ a ∉ fp := by
  unfold restB at h
  split at h
  · cases h
  · exact ⟨(rest_some h).1, (rest_some h).2, by assumption⟩
theorem restB_nt {H S : Hp} {fp : List Addr} (a : Addr) (o : HO) (h : restB H S fp a = some o) : noTup o = true := by
  unfold restB at h
  split at h
  · cases h
  · exact rest_nt a o h
theorem restB_of {fp : List Addr} {a : Addr} {o : HO} (h : H a = some o) (h2 : S a = none) (h3 : a ∉ fp) (h4 : noTup o = true) : restB H S fp a = some o := by
  unfold restB
  rw [if_neg h3]
  exact rest_of h h2 h4
theorem EnvOk.backB {i : Nat} {m : Mode} {fp : List Addr} {pin : Nat → Addr} (h : EnvOk K G F S H μ σ ρ) (hm : μ[i]? = some m) (hl : EnvOk K G (F.lend H fp) S H (μ.set i .x) σ ρ) (f : Fp F S H fp) (e : Ex S S')
    {μ' : List Mode} {σ' : L2.St} {ρ' : List D} (q : EnvOk K G ⟨restB H S fp, pin, restB_nt⟩ S' H' μ' σ' ρ') : EnvOk K G F S' H' (μ.set i .x) σ ρ ∧ ∀ fp', (∀ a ∈ fp', S' a = none ∧ restB H S fp a = none) → (∀ a ∈ fp', ∃ o, H' a = some o ∧ noTup o = true) → fp'.Nodup → Fp F S' H' fp' ∧ EnvOk K G (F.lend H' fp') S' H' (μ.set i .x) σ ρ := by
  obtain ⟨fq, ⟨f1, f2, f3⟩, f4, sl, th⟩ := hl.fps
  have away : ∀ j a, a ∈ fq j → a ∉ fp := fun j a ha hb => by
    have := (f1 j a ha).2
    rw [Fo.lend_in hb] at this
    obtain ⟨o, e, nt0⟩ := f.th a hb
    rw [e, ntOnly_of nt0] at this
    cases this
  have stay : ∀ a o, H a = some o → noTup o = true → S a = none → a ∉ fp → H' a = some o ∧ S' a = none := fun a o h1 h4 h2 h3 => q.fk a o (restB_of h1 h2 h3 h4)
  have sh : Ex S' H' := q.sh
  have fk : ∀ a o, F a = some o → H' a = some o ∧ S' a = none := fun a o z => by
    obtain ⟨z1, z2⟩ := h.fk a o z
    exact stay a o z1 (F.nt a o z) z2 fun w => by have := (f.fr a w).2; rw [z] at this; cases this
  have fin : ∀ j a, a ∈ fq j → H' a = H a ∧ S' a = none ∧ F a = none := fun j a ha => by
    obtain ⟨o, ho, nt0⟩ := th j a ha
    have z := f1 j a ha
    have z3 := away j a ha
    rw [Fo.lend_out z3] at z
    obtain ⟨w1, w2⟩ := stay a o ho nt0 z.1 z3
    exact ⟨w1.trans ho.symm, w2, z.2⟩
  have slots : ∀ j m', (μ.set i .x)[j]? = some m' → SlotOk K G F.pin S' H' m' (σ[j]?) (ρ.getD j .non) (fq j) := fun j m' e' => (sl j m' e').mono e fun a ha => (fin j a ha).1
  refine ⟨⟨sh, fk, hl.ls, hl.lr, fq, ⟨fun j a ha => ⟨(fin j a ha).2.1, (fin j a ha).2.2⟩, f2, f3⟩, f4, slots⟩, fun fp' g1 g2 g3 => ?_⟩
  have off : ∀ a ∈ fp', F a = none := fun a ha => by
    cases z : F a with
    | none => rfl
    | some o =>
      obtain ⟨z1, z2⟩ := h.fk a o z
      have w : a ∉ fp := fun w => by have := (f.fr a w).2; rw [z] at this; cases this
      have := (g1 a ha).2
      rw [restB_of z1 z2 w (F.nt a o z)] at this
      cases this
  have away2 : ∀ j a, a ∈ fq j → a ∉ fp' := fun j a ha hb => by
    obtain ⟨o, ho, nt0⟩ := th j a ha
    have z := f1 j a ha
    have z3 := away j a ha
    have := (g1 a hb).2
    rw [restB_of ho z.1 z3 nt0] at this
    cases this
  refine ⟨⟨g3, fun a ha => ⟨(g1 a ha).1, off a ha⟩, g2⟩, ⟨sh, fun a o z => ?_, hl.ls, hl.lr, fq, ⟨fun j a ha => ⟨(fin j a ha).2.1, ?_⟩, f2, f3⟩, f4, slots⟩⟩
  · by_cases w : a ∈ fp'
    · rw [Fo.lend_in w] at z
      exact ⟨(ntOnly_some z).1, (g1 a w).1⟩
    · rw [Fo.lend_out w] at z
      exact fk a o z
  · rw [Fo.lend_out (away2 j a ha)]
    exact (fin j a ha).2.2
end
end MR
namespace MR
open PySem L2 PySem.Spec PyProof.Rows
section
variable {K : PySem.W.Frag} {G : Cl} {E : XS} {C : SC} {μ μ' μ1 : List Mode} {r : Mode} {X : Cx} {F : Fo} {S S' H H' : Hp} {σ : L2.St} {ρ : List D}
variable {P : Program} {w : World} {mg : Str → Option Value} {base : Heap}
theorem DatL.all : ∀ {vs : List V} {ds : List D}, DatL K G S vs ds → Ow K G S H true (.all .d) vs ds []
  | _, _, .nil => .all0
  | _, _, .cons h t => .all (f1 := []) (f2 := []) (.dat h) t.all
theorem Ow.flat : ∀ {vs : List V} {ds : List D} {fp : List Addr}, Ow K G S H true (.all .d) vs ds fp → fp = [] ∧ DatL K G S vs ds
  | _, _, _, .all0 => ⟨rfl, .nil⟩
  | _, _, _, .all (.dat h) t => by
    obtain ⟨e, q⟩ := t.flat
    subst e
    exact ⟨rfl, .cons h q⟩
noncomputable def kindOk : Sh → D → Bool
  | .l _, .lst _ => true
  | .dk, .dK _ => true
  | .dt, .dT _ => true
  | .i c _, .ins c' _ => c == c'
  | _, _ => false
noncomputable def oSh : Sh → Bool
  | .l (.all .d) => true
  | .dk => true
  | .dt => true
  | _ => false
noncomputable def shS (m : Mode) (b : Sh) : Bool := match m with
  | .w a => decide (a = b)
  | .s _ a => decide (a = b)
  | .o => oSh b
  | _ => false
theorem slot_ow {pin : Nat → Addr} {m : Mode} {sv : Option (Option V)} {d : D} {fp : List Addr} {sh : Sh} (h : SlotOk K G pin S H m sv d fp) (e : shS m sh = true) (kd : kindOk sh d = true) :
    ∃ p, sv = some (some (.ref p)) ∧ Ow K G S H false sh [.ref p] [d] fp ∧ ∀ S' H' d' fp', Ow K G S' H' false sh [.ref p] [d'] fp' → SlotOk K G pin S' H' m sv d' fp' := by
  cases m with
  | w a =>
    have : a = sh := of_decide_eq_true e
    subst this
    obtain ⟨p, h1, h2⟩ := h
    exact ⟨p, h1, h2, fun S' H' d' fp' q => ⟨p, h1, q⟩⟩
  | s k a =>
    have : a = sh := of_decide_eq_true e
    subst this
    exact ⟨_, h.1, h.2, fun S' H' d' fp' q => ⟨h.1, q⟩⟩
  | o =>
    obtain ⟨p, h1, h2, h3⟩ := h
    subst h3
    cases h2 with
    | lst a1 a2 =>
      have : sh = .l (.all .d) := by
        have e : oSh sh = true := e
        unfold oSh at e
        split at e
        · rfl
        · cases kd
        · cases kd
        · cases e
      subst this
      refine ⟨p, h1, .lst a1 (own_flat a2 rfl).all, fun S' H' d' fp' q => ?_⟩
      cases q with
      | lst b1 b2 =>
        obtain ⟨e1, e2⟩ := b2.flat
        subst e1
        exact ⟨p, h1, .lst b1 e2.ownL, rfl⟩
    | dK a1 a2 a3 =>
      have : sh = .dk := by
        have e : oSh sh = true := e
        unfold oSh at e
        split at e
        · cases kd
        · rfl
        · cases kd
        · cases e
      subst this
      refine ⟨p, h1, .dk a1 a2 (own_flat a3 rfl), fun S' H' d' fp' q => ?_⟩
      cases q with
      | dk b1 b2 b3 => exact ⟨p, h1, .dK b1 b2 b3.ownL, rfl⟩
    | dT a1 a2 a3 =>
      have : sh = .dt := by
        have e : oSh sh = true := e
        unfold oSh at e
        split at e
        · cases kd
        · cases kd
        · rfl
        · cases e
      subst this
      refine ⟨p, h1, .dt a1 a2 (own_flat a3 rfl), fun S' H' d' fp' q => ?_⟩
      cases q with
      | dt b1 b2 b3 => exact ⟨p, h1, .dT b1 b2 b3.ownL, rfl⟩
    | ins a1 a2 a3 =>
      exfalso
      have e : oSh sh = true := e
      unfold oSh at e
      split at e
      · cases kd
      · cases kd
      · cases kd
      · cases e
  | x => cases e
  | d => cases e
  | e a => cases e
inductive RB where
  | ok (d d1 : D) | exc (e : Err) (d1 : D) | bad
noncomputable abbrev MPB := List D → RB
noncomputable def spB (K : PySem.W.Frag) (G : Cl) (n : Nat) (rm : Mode) (sh : Sh) (mo mx : Mode) (f : MPB) : Sp := fun vs H Q E => ∃ (F : Fo) (S : Hp) (p : Addr) (us : List V) (d0 : D) (ds : List D) (fp : List Addr),
  vs = .ref p :: us ∧ ds.length = n ∧ DatL K G S us ds ∧ Ex S H ∧ (∀ a o, F a = some o → H a = some o ∧ S a = none) ∧ Fp F S H fp ∧ Ow K G S H false sh [.ref p] [d0] fp ∧ F.pin 0 = p ∧
  match f (d0 :: ds) with
  | .ok d d1 => ∀ v S' H', Ex S S' → EnvOk K G F S' H' [rm, mo] [some v, some (.ref p)] [d, d1] → Q v H'
  | .exc e d1 => ∀ c dct S' H', Ex S S' → EnvOk K G F S' H' [mx] [some (.ref p)] [d1] → ErrAt G e c dct S' → E c dct H'
  | .bad => False
theorem spB_len {n : Nat} {rm mo mx : Mode} {sh : Sh} {f : MPB} {vs : List V} {H : Hp} {Q : VK} {E : XK} (h : spB K G n rm sh mo mx f vs H Q E) : vs.length = n + 1 := by
  obtain ⟨F, S, p, us, d0, ds, fp, rfl, l, q, _⟩ := h
  rw [List.length_cons, q.length, l]
theorem EnvOk.argsB {p : Addr} {us : List V} {d0 : D} {ds : List D} {fp : List Addr} {sh : Sh} (sh0 : Ex S H) (fk : ∀ a o, F a = some o → H a = some o ∧ S a = none) (f : Fp F S H fp) (ow : Ow K G S H false sh [.ref p] [d0] fp) (hp : F.pin 0 = p) (q : DatL K G S us ds) (k : Nat) :
    EnvOk K G F S H (.s 0 sh :: (List.replicate ds.length .d ++ List.replicate k .x)) (some (.ref p) :: (us.map some ++ List.replicate k none)) (d0 :: (ds ++ List.replicate k .non)) := by
  have h : EnvOk K G (F.lend H fp) S H (List.replicate ds.length .d ++ List.replicate k .x) (us.map some ++ List.replicate k none) (ds ++ List.replicate k .non) := EnvOk.args sh0 (fun a o z => by
    by_cases w : a ∈ fp
    · rw [Fo.lend_in w] at z
      exact ⟨(ntOnly_some z).1, (f.fr a w).1⟩
    · rw [Fo.lend_out w] at z
      exact fk a o z) q k
  refine h.joinS f ?_
  rw [← hp]
  exact ⟨rfl, hp ▸ ow⟩
noncomputable def mDefB (rm : Mode) (k : Nat) (b : MS) : MPB := fun ds => match b (ds ++ List.replicate k .non) with
  | .ret d ρ => .ok d (ρ.getD 0 .non)
  | .nx ρ => match rm with
    | .d => .ok .non (ρ.getD 0 .non)
    | _ => .bad
  | .exc e ρ => .exc e (ρ.getD 0 .non)
  | _ => .bad
noncomputable def scOfB (E : XK) (rm mx : Mode) (n k : Nat) : SC := ⟨fun _ => E, rm, mx :: List.replicate (n + k) .x, List.replicate (n + k + 1) .x, List.replicate (n + k + 1) .x⟩
end
end MR
namespace MR
open PySem L2 PySem.Spec PyProof.Rows
section
variable {K : PySem.W.Frag} {G : Cl} {E : XS} {C : SC} {μ μ' μ1 : List Mode} {r : Mode} {X : Cx} {F : Fo} {S S' H H' : Hp} {σ : L2.St} {ρ : List D}
variable {P : Program} {w : World} {mg : Str → Option Value} {base : Heap}
theorem set_back {α : Type} {l : List α} {i : Nat} {a b : α} (h : l[i]? = some a) : (l.set i b).set i a = l := by
  have hi : i < l.length := (List.getElem?_eq_some_iff.mp h).1
  rw [List.set_set]
  apply List.ext_getElem?
  intro j
  by_cases z : j = i
  · subst z; rw [List.getElem?_set_self hi, h]
  · rw [List.getElem?_set_ne (Ne.symm z)]
theorem eok_const {Q : VK} {o : RR D} (h : EOk K G E r μ F S σ Q o) : EOk K G (fun _ => E σ) r μ F S σ Q o := by
  cases o with
  | ok d ρ => exact h
  | exc e ρ => exact h
  | bad => exact h
end
end MR
namespace MR
open PySem L2 PySem.Spec PyProof.Rows
section
variable {K : PySem.W.Frag} {G : Cl} {E : XS} {C : SC} {μ μ' μ1 : List Mode} {r : Mode} {X : Cx} {F : Fo} {S S' H H' : Hp} {σ : L2.St} {ρ : List D}
noncomputable def Sh.at : Sh → Nat → Option Sh
  | .cons s _, 0 => some s
  | .cons _ row, j + 1 => row.at j
  | .all s, _ => some s
  | _, _ => none
theorem Ow.at {q : Bool} {row : Sh} {vs : List V} {ds : List D} {fp : List Addr} (h : Ow K G S H q row vs ds fp) : ∀ {j : Nat} {s1 : Sh} {d1 : D}, q = true → row.at j = some s1 → ds[j]? = some d1 → fp.Nodup →
    ∃ v f1, vs[j]? = some v ∧ Ow K G S H false s1 [v] [d1] f1 ∧ (∀ a ∈ f1, a ∈ fp) ∧ f1.Nodup ∧ ∀ S' H' d2, Ex S S' → (∀ a ∈ fp, a ∉ f1 → H' a = H a) → Ow K G S' H' false s1 [v] [d2] f1 → Ow K G S' H' true row vs (ds.set j d2) fp := by
  induction h with
  | @cons s row v d vs ds f1 f2 a1 a2 i1 i2 =>
    intro j s1 d1 _ e1 e2 nd
    obtain ⟨n1, n2, n3⟩ := List.nodup_append.mp nd
    cases j with
    | zero =>
      cases e1
      cases e2
      refine ⟨v, f1, rfl, a1, fun a ha => List.mem_append_left _ ha, n1, fun S' H' d2 e k w => .cons w (a2.mono e fun a ha => k a (List.mem_append_right _ ha) fun hb => n3 a hb a ha rfl)⟩
    | succ j =>
      obtain ⟨v1, g1, h1, h2, h3, h4, h5⟩ := i2 rfl e1 (by simpa using e2) n2
      refine ⟨v1, g1, by simpa using h1, h2, fun a ha => List.mem_append_right _ (h3 a ha), h4, fun S' H' d2 e k w => ?_⟩
      exact .cons (a1.mono e fun a ha => k a (List.mem_append_left _ ha) fun hb => n3 a ha a (h3 a hb) rfl) (h5 S' H' d2 e (fun a ha hb => k a (List.mem_append_right _ ha) hb) w)
  | @all s v d vs ds f1 f2 a1 a2 i1 i2 =>
    intro j s1 d1 _ e1 e2 nd
    obtain ⟨n1, n2, n3⟩ := List.nodup_append.mp nd
    cases j with
    | zero =>
      cases e1
      cases e2
      refine ⟨v, f1, rfl, a1, fun a ha => List.mem_append_left _ ha, n1, fun S' H' d2 e k w => .all w (a2.mono e fun a ha => k a (List.mem_append_right _ ha) fun hb => n3 a hb a ha rfl)⟩
    | succ j =>
      obtain ⟨v1, g1, h1, h2, h3, h4, h5⟩ := i2 (j := j) (s1 := s1) rfl (by cases e1; cases j <;> rfl) (by simpa using e2) n2
      refine ⟨v1, g1, by simpa using h1, h2, fun a ha => List.mem_append_right _ (h3 a ha), h4, fun S' H' d2 e k w => ?_⟩
      exact .all (a1.mono e fun a ha => k a (List.mem_append_left _ ha) fun hb => n3 a ha a (h3 a hb) rfl) (h5 S' H' d2 e (fun a ha hb => k a (List.mem_append_right _ ha) hb) w)
  | nil => intro j s1 d1 q e1 e2; simp at e2
  | all0 => intro j s1 d1 q e1 e2; simp at e2
  | _ => intro j s1 d1 q; cases q
noncomputable def fldAt (f : Str) (j : Nat) (fs : List (Str × D)) : Bool := ((fs.take j).lookup f).isNone && decide ((fs[j]?).map (·.1) = some f)
noncomputable def kids : D → List D
  | .ins _ fs => fs.map (·.2)
  | .lst ds => ds
  | _ => []
noncomputable def putKid : D → Nat → D → D
  | .ins c fs, j, d => .ins c ((fs.map (·.1)).zip ((fs.map (·.2)).set j d))
  | .lst ds, j, d => .lst (ds.set j d)
  | d, _, _ => d
noncomputable def rowOf : Sh → Option Sh
  | .l row => some row
  | .i _ row => some row
  | _ => none
noncomputable def ObjAt (G : Cl) (H : Hp) : Sh → Addr → List V → D → Prop
  | .i c _, p, vs, d => ∃ (dx : Addr) (ks : List Str) (ds : List D), H p = some (.ins (G.cA c) dx (ks.zip vs)) ∧ ks.length = vs.length ∧ vs.length = ds.length ∧ d = .ins c (ks.zip ds)
  | .l _, p, vs, d => H p = some (.lst vs)
  | _, _, _, _ => False
theorem zip_fst {α : Type} {ks : List Str} {ds : List α} (h : ks.length = ds.length) : (ks.zip ds).map (·.1) = ks := by
  rw [List.map_fst_zip (by omega)]
theorem zip_snd {α : Type} {ks : List Str} {ds : List α} (h : ks.length = ds.length) : (ks.zip ds).map (·.2) = ds := by
  rw [List.map_snd_zip (by omega)]
theorem Ow.parts {sh row : Sh} {p : Addr} {d : D} {fp : List Addr} (h : Ow K G S H false sh [.ref p] [d] fp) (e : rowOf sh = some row) : ∃ vs fq, fp = p :: fq ∧ Ow K G S H true row vs (kids d) fq ∧ ObjAt G H sh p vs d ∧
    ∀ S' H' j d2, H' p = H p → Ow K G S' H' true row vs ((kids d).set j d2) fq → Ow K G S' H' false sh [.ref p] [putKid d j d2] fp := by
  cases h with
  | lst a1 a2 =>
    cases e
    refine ⟨_, _, rfl, a2, a1, fun S' H' j d2 k w => .lst (k.trans a1) w⟩
  | @ins _ dx c row ks vs ds fq a1 a2 a3 =>
    cases e
    have l := a3.length
    have e1 : kids (.ins c (ks.zip ds)) = ds := zip_snd (a2.trans l)
    refine ⟨vs, _, rfl, by rw [e1]; exact a3, ⟨dx, ks, ds, a1, a2, l, rfl⟩, fun S' H' j d2 k w => ?_⟩
    rw [e1] at w
    show Ow K G S' H' false (.i c row) [.ref p] [.ins c (((ks.zip ds).map (·.1)).zip (((ks.zip ds).map (·.2)).set j d2))] _
    rw [zip_fst (a2.trans l), zip_snd (a2.trans l)]
    exact .ins (k.trans a1) a2 w
  | dat _ => cases e
  | dk _ _ _ => cases e
  | dt _ _ _ => cases e
noncomputable def flat1 : Sh → Bool
  | .l (.all .d) => true
  | .dk => true
  | .dt => true
  | _ => false
theorem Ow.one {s1 : Sh} {v : V} {d : D} {fp : List Addr} (h : Ow K G S H false s1 [v] [d] fp) (e : flat1 s1 = true) : ∃ q, v = .ref q ∧ fp = [q] := by
  cases h with
  | dat _ => cases e
  | @lst p row vs ds fq a1 a2 =>
    have : row = .all .d := by
      unfold flat1 at e
      split at e
      · rename_i q; cases q; rfl
      · rename_i q; cases q
      · rename_i q; cases q
      · cases e
    subst this
    exact ⟨p, rfl, by rw [a2.flat.1]⟩
  | ins _ _ _ => cases e
  | dk _ _ _ => exact ⟨_, rfl, rfl⟩
  | dt _ _ _ => exact ⟨_, rfl, rfl⟩
theorem EnvOk.kid {i j : Nat} {mo : Mode} {sh row s1 : Sh} {d1 : D} (h : EnvOk K G F S H μ σ ρ) (hm : μ[i]? = some mo) (hs : shS mo sh = true) (hk : kindOk sh (ρ.getD i .non) = true) (hr : rowOf sh = some row) (ha : row.at j = some s1) (hf : flat1 s1 = true) (hd : (kids (ρ.getD i .non))[j]? = some d1) :
    ∃ p vs q fp, σ[i]? = some (some (.ref p)) ∧ ObjAt G H sh p vs (ρ.getD i .non) ∧ vs[j]? = some (.ref q) ∧ Ow K G S H false s1 [.ref q] [d1] [q] ∧ EnvOk K G (F.lend H fp) S H (μ.set i .x) σ ρ ∧ q ∈ fp ∧
      ∀ S2 H2 ρ2, Ex S S2 → EnvOk K G (F.lend H fp) S2 H2 (μ.set i .x) σ ρ2 → Ow K G S2 H2 false s1 [.ref q] [d1] [q] ∧ EnvOk K G F S2 H2 μ σ (ρ2.set i (ρ.getD i .non)) ∧
        ∀ o d2, Ow K G S2 (upd H2 q o) false s1 [.ref q] [d2] [q] → EnvOk K G F S2 (upd H2 q o) μ σ (ρ2.set i (putKid (ρ.getD i .non) j d2)) := by
  obtain ⟨fp, sl, fo, hl⟩ := h.lend hm
  have hi : i < μ.length := (List.getElem?_eq_some_iff.mp hm).1
  obtain ⟨p, hp, ow, back⟩ := slot_ow sl hs hk
  obtain ⟨vs, fq, rfl, w, ob, re⟩ := ow.parts hr
  obtain ⟨n1, n2⟩ := List.nodup_cons.mp fo.nd
  obtain ⟨v, f1, z1, z2, z3, z4, z5⟩ := w.at rfl ha hd n2
  obtain ⟨q, rfl, rfl⟩ := z2.one hf
  have hq : q ∈ fq := z3 q (List.mem_singleton.mpr rfl)
  refine ⟨p, vs, q, p :: fq, hp, ob, z1, z2, hl, List.mem_cons_of_mem _ hq, fun S2 H2 ρ2 ex h2 => ?_⟩
  have st : ∀ a ∈ p :: fq, H2 a = H a ∧ S2 a = none := fun a ha => by
    obtain ⟨o, e, nt0⟩ := fo.th a ha
    have := h2.fk a o (by rw [Fo.lend_in ha, e, ntOnly_of nt0])
    exact ⟨this.1.trans e.symm, this.2⟩
  have f2 : Fp F S2 H (p :: fq) := ⟨fo.nd, fun a ha => ⟨(st a ha).2, (fo.fr a ha).2⟩, fo.th⟩
  have e3 : (μ.set i .x).set i mo = μ := set_back hm
  have e4 : μ.set i mo = μ := by rw [List.set_set] at e3; exact e3
  refine ⟨z2.mono ex fun a ha => (st a (List.mem_cons_of_mem _ (z3 a ha))).1, h2.unlend0 hm fo ex sl, fun o d2 w2 => ?_⟩
  have np : p ≠ q := fun z => n1 (z ▸ hq)
  have := h2.unlend (m' := mo) (d' := putKid (ρ.getD i .non) j d2) (H2 := upd H2 q o) (fp' := p :: fq) hi f2 (fun a ha => upd_ne fun z => ha (z ▸ List.mem_cons_of_mem _ hq))
    (back S2 (upd H2 q o) _ _ (re S2 (upd H2 q o) j d2 (by rw [upd_ne np]; exact (st p List.mem_cons_self).1) (z5 S2 (upd H2 q o) d2 ex (fun a ha hb => by rw [upd_ne (fun z => hb (List.mem_singleton.mpr z))]; exact (st a (List.mem_cons_of_mem _ ha)).1) w2))) fo.nd fun a ha => ha
  rw [e4] at this
  exact this
end
end MR
namespace MR
open PySem L2 PySem.Spec PyProof.Rows
section
variable {K : PySem.W.Frag} {G : Cl} {E : XS} {C : SC} {μ μ' μ1 μa : List Mode} {r : Mode} {X : Cx} {F : Fo} {S S' H H' : Hp} {σ : L2.St} {ρ : List D}
structure Pl where
  rd : List D → List D → Option D
  re : List D → List D → List D
  put : List D → List D → D → List D
noncomputable def kidAt (sh : Sh) (f : Str) (j : Nat) (d : D) : Option D := match sh, d with
  | .i c _, .ins c' fs => if c == c' && fldAt f j fs then (fs.map (·.2))[j]? else none
  | .l _, .lst ds => ds[j]?
  | _, _ => none
noncomputable def FlatAt (K : PySem.W.Frag) (G : Cl) (S H : Hp) (s1 : Sh) (q : Addr) (d : D) : Prop := Ow K G S H false s1 [.ref q] [d] [q]
structure PlE (X : Cx) (G : Cl) (μ μa : List Mode) (s1 : Sh) (e : Expr) (p : Pl) : Prop where
  ex : ∃ t, PE X e t ∧ ∀ F S H σ ρ d1, EnvOk X.K G F S H μ σ ρ → p.rd ρ ρ = some d1 → ∃ (q : Addr) (F' : Fo), (∀ Q : VK, Q (.ref q) H → t σ H Q) ∧ FlatAt X.K G S H s1 q d1 ∧ EnvOk X.K G F' S H μa σ ρ ∧
    ∀ S2 H2 ρ2, Ex S S2 → EnvOk X.K G F' S2 H2 μa σ ρ2 → EnvOk X.K G F S2 H2 μ σ (p.re ρ ρ2) ∧ ∀ d2, p.rd ρ ρ2 = some d2 → FlatAt X.K G S2 H2 s1 q d2 ∧ ∀ o d3, FlatAt X.K G S2 (upd H2 q o) s1 q d3 → EnvOk X.K G F S2 (upd H2 q o) μ σ (p.put ρ ρ2 d3)
theorem owned_ref {pin : Nat → Addr} {mo : Mode} {sv : Option (Option V)} {d : D} {fp : List Addr} (h : SlotOk K G pin S H mo sv d fp) {sh : Sh} (hs : shS mo sh = true) : ∃ p, sv = some (some (.ref p)) := by
  cases mo with
  | w _ => exact let ⟨p, a, _⟩ := h; ⟨p, a⟩
  | s _ _ => exact ⟨_, h.1⟩
  | o => exact let ⟨p, a, _⟩ := h; ⟨p, a⟩
  | _ => cases hs
theorem kidAt_kids {sh : Sh} {f : Str} {j : Nat} {d d1 : D} (h : kidAt sh f j d = some d1) : (kids d)[j]? = some d1 ∧ kindOk sh d = true := by
  unfold kidAt at h
  split at h
  · split at h
    · rename_i hc
      simp only [Bool.and_eq_true] at hc
      exact ⟨h, by simpa [kindOk] using hc.1⟩
    · cases h
  · exact ⟨h, rfl⟩
  · cases h
end
end MR
namespace MR
open PySem L2 PySem.Spec PyProof.Rows
section
variable {K : PySem.W.Frag} {G : Cl} {E : XS} {C : SC} {μ μ' μ1 μa : List Mode} {r : Mode} {X : Cx} {F : Fo} {S S' H H' : Hp} {σ : L2.St} {ρ : List D}
noncomputable abbrev shL : Sh := .l (.all .d)
theorem FlatAt.lst {q : Addr} {c : D} (h : FlatAt K G S H shL q c) : ∃ vs ds, c = .lst ds ∧ H q = some (.lst vs) ∧ DatL K G S vs ds := by
  cases h with
  | lst a1 a2 => exact ⟨_, _, rfl, a1, a2.flat.2⟩
theorem FlatAt.mk {q : Addr} {vs : List V} {ds : List D} (h : H q = some (.lst vs)) (q2 : DatL K G S vs ds) : FlatAt K G S H shL q (.lst ds) := Ow.lst h q2.all
theorem FlatAt.up {q : Addr} {vs : List V} {ds : List D} (q2 : DatL K G S vs ds) : FlatAt K G S (upd H q (.lst vs)) shL q (.lst ds) := .mk upd_same q2
end
end MR
namespace MR
open PySem L2 PySem.Spec PyProof.Rows
section
variable {K : PySem.W.Frag} {G : Cl} {E : XS} {C : SC} {μ μ' μ1 μa : List Mode} {r : Mode} {X : Cx} {F : Fo} {S S' H H' : Hp} {σ : L2.St} {ρ : List D}
noncomputable def KeyV (K : PySem.W.Frag) (G : Cl) (S : Hp) (v : V) : D → Prop
  | .tup ds => ∃ b vs, v = .ref b ∧ S b = some (.tup vs) ∧ DatL K G S vs ds
  | _ => True
theorem KeyV.mono {v : V} {d : D} (e : Ex S S') (h : KeyV K G S v d) : KeyV K G S' v d := by
  cases d with
  | tup ds => exact let ⟨b, vs, h1, h2, h3⟩ := h; ⟨b, vs, h1, e _ _ h2, h3.mono e⟩
  | _ => trivial
section
variable {κ : Type} [DecidableEq κ]
noncomputable def valD (kvs : List (κ × D)) (k : κ) : Option D := (kvs.find? fun kv => decide (kv.1 = k)).map (·.2)
end
end
end MR
namespace MR.TX
open PySem PySem.W PyProof.Rows
noncomputable def lexT : List Str → List Str → Bool
  | x :: xs, y :: ys => if x = y then lexT xs ys else decide (x.cps.toList < y.cps.toList)
  | _, _ => false
end MR.TX
namespace MR
open PySem L2 PySem.Spec PyProof.Rows
noncomputable def insB {α : Type} (lt : α → α → Bool) (x : α) : List α → List α
  | [] => [x]
  | y :: ys => if lt y x then y :: insB lt x ys else x :: y :: ys
noncomputable def sortB {α : Type} (lt : α → α → Bool) : List α → List α
  | [] => []
  | x :: xs => insB lt x (sortB lt xs)
noncomputable def ltS (x y : Str) : Bool := decide (x.cps.toList < y.cps.toList)
theorem ltS_as (x y : Str) (h : ltS x y = true) : ltS y x = false := decide_eq_false (List.lt_asymm (of_decide_eq_true h))
noncomputable def sortS (xs : List Str) : List Str := sortB ltS xs
end MR
namespace MR
open PySem L2 PySem.Spec PyProof.Rows
section
variable {K : PySem.W.Frag} {G : Cl} {E : XS} {C : SC} {μ μ' μ1 μa : List Mode} {r : Mode} {X : Cx} {F : Fo} {S S' H H' : Hp} {σ : L2.St} {ρ : List D}
noncomputable def mBadS : MS := fun _ => .bad
theorem jss_bad {sts : List Stmt} : JSs X G C μ μ' sts mBadS := ⟨fun _ _ _ => False, ⟨fun _ _ _ _ _ _ h => h.elim⟩, fun _ _ _ _ _ _ _ k => k⟩
end
end MR
namespace MR
open PySem L2 PySem.Spec PyProof.Rows
noncomputable def Fo.nil0 : Fo := ⟨fun _ => none, fun _ => 0, fun _ _ h => nomatch h⟩
theorem Fo.nil0_no {a : Addr} {o : HO} {p : Prop} (z : Fo.nil0 a = some o) : p := by
  have z2 : (none : Option HO) = some o := z
  cases z2
noncomputable def bitsMost : Nat := 1048576
theorem bits_lt {z : Int} (h : Builtin.Int.intBits z ≤ 1048576) : z.natAbs < 2 ^ bitsMost := by
  unfold Builtin.Int.intBits at h
  have h2 : z.natAbs < 2 ^ (z.natAbs.log2 + 1) := Nat.lt_log2_self
  split at h
  · rename_i q
    have : z = 0 := by simpa using q
    subst this
    exact Nat.two_pow_pos _
  · exact Nat.lt_of_lt_of_le h2 (Nat.pow_le_pow_right (by decide) h)
end MR
namespace MR
open PySem L2 PySem.Spec PyProof.Rows
section
variable {K : PySem.W.Frag} {G : Cl} {E : XS} {C : SC} {μ μ' μ1 μa : List Mode} {r : Mode} {X : Cx} {F : Fo} {S S' H H' : Hp} {σ : L2.St} {ρ : List D} {d : D}
theorem EnvOk.pushX {s : Option V} (h : EnvOk K G F S H μ σ ρ) : EnvOk K G F S H (.x :: μ) (s :: σ) (d :: ρ) := by
  obtain ⟨sh, fk, ls, lr, fp, ⟨f1, f2, f3⟩, f4, sl⟩ := h
  refine ⟨sh, fk, by simpa using ls, by simpa using lr, fun i => match i with | 0 => [] | i + 1 => fp i, ⟨?_, ?_, ?_⟩, ?_, ?_⟩
  · intro i a ha
    cases i with
    | zero => cases ha
    | succ i => exact f1 i a ha
  · intro i j a ha hb
    cases i with
    | zero => cases ha
    | succ i =>
      cases j with
      | zero => cases hb
      | succ j => exact congrArg (· + 1) (f2 i j a ha hb)
  · intro i
    cases i with
    | zero => exact List.nodup_nil
    | succ i => exact f3 i
  · intro i hi
    cases i with
    | zero => simp at hi
    | succ i => exact f4 i (by simpa using hi)
  · intro i m e
    cases i with
    | zero =>
      simp only [List.getElem?_cons_zero, Option.some.injEq] at e
      subst e
      rfl
    | succ i =>
      have := sl i m (by simpa using e)
      simpa using this
variable {e a0 : Expr} {es : List Expr} {m : ME} {a : MA} {ap cp : Pos}
end
end MR
namespace MR
open PySem L2
inductive SqLs (K : PySem.W.Frag) (H : Hp) : List Addr → List (List V) → Prop
  | nil : SqLs K H [] []
  | cons {a : Addr} {xs : List V} {as : List Addr} {xss : List (List V)} : SqL K H a xs → SqLs K H as xss → SqLs K H (a :: as) (xs :: xss)
theorem SqLs.length {K : PySem.W.Frag} {H : Hp} : ∀ {as : List Addr} {xss : List (List V)}, SqLs K H as xss → as.length = xss.length
  | _, _, .nil => rfl
  | _, _, .cons _ h => by simp [h.length]
theorem SqLs.mono {K : PySem.W.Frag} {H H' : Hp} (e : Ex H H') : ∀ {as : List Addr} {xss : List (List V)}, SqLs K H as xss → SqLs K H' as xss
  | _, _, .nil => .nil
  | _, _, .cons h1 h2 => .cons (Evl.ex_l e h1) (h2.mono e)
end MR
namespace MR
open PySem L2 PySem.Spec PyProof.Rows
noncomputable abbrev LL := List (Option (Nat × Sh))
noncomputable def fillD : LL → List D → List D → List D
  | [], _, _ => []
  | none :: r, d :: ds, ρ => d :: fillD r ds ρ
  | none :: r, [], ρ => .non :: fillD r [] ρ
  | some (i, _) :: r, ds, ρ => ρ.getD i .non :: fillD r ds ρ
section
variable {K : PySem.W.Frag} {G : Cl} {E : XS} {C : SC} {μ μ' μ1 μ2 : List Mode} {r : Mode} {X : Cx} {F : Fo} {S S' H H' : Hp} {σ : L2.St} {ρ : List D}
variable {P : Program} {w : World} {mg : Str → Option Value} {base : Heap}
inductive ParV (K : PySem.W.Frag) (G : Cl) (S : Hp) (σ : L2.St) : LL → List D → List V → Prop
  | nil : ParV K G S σ [] [] []
  | dat {v : V} {d : D} {L : LL} {ds : List D} {us : List V} : Dat K G S v d → ParV K G S σ L ds us → ParV K G S σ (none :: L) (d :: ds) (v :: us)
  | lend {v : V} {i : Nat} {sh : Sh} {L : LL} {ds : List D} {us : List V} : σ[i]? = some (some v) → ParV K G S σ L ds us → ParV K G S σ (some (i, sh) :: L) ds (v :: us)
theorem ParV.at0 {L : LL} {ds : List D} {us : List V} (h : ParV K G S σ L ds us) (ρ : List D) : ∀ t : Nat, L[t]? = some none → ∃ v d, us[t]? = some v ∧ (fillD L ds ρ)[t]? = some d ∧ Dat K G S v d := by
  induction h with
  | nil => intro t e; simp at e
  | dat h _ ih =>
    intro t e
    cases t with
    | zero => exact ⟨_, _, rfl, rfl, h⟩
    | succ t => exact ih t (by simpa using e)
  | lend _ _ ih =>
    intro t e
    cases t with
    | zero => simp at e
    | succ t => exact ih t (by simpa using e)
end
end MR
namespace MR
open PySem L2 PySem.Spec PyProof.Rows
section
variable {K : PySem.W.Frag} {G : Cl} {E : XS} {C : SC} {μ μ' μ1 μ2 : List Mode} {r : Mode} {X : Cx} {F : Fo} {S S' H H' : Hp} {σ : L2.St} {ρ : List D}
variable {P : Program} {w : World} {mg : Str → Option Value} {base : Heap}
noncomputable def ParOk (K : PySem.W.Frag) (G : Cl) (E : XS) (μ : List Mode) (L : LL) (F : Fo) (S : Hp) (σ : L2.St) (Q : List V → Hp → Prop) : RR (List D) → Prop
  | .ok ds ρ' => ∀ vs S' H', Ex S S' → EnvOk K G F S' H' μ σ ρ' → ParV K G S' σ L ds vs → Q vs H'
  | .exc e ρ' => XOk K G E μ F S σ e ρ'
  | .bad => False
theorem ParV.mono {L : LL} {ds : List D} {us : List V} (e : Ex S S') (h : ParV K G S σ L ds us) : ParV K G S' σ L ds us := by
  induction h with
  | nil => exact .nil
  | dat h _ ih => exact .dat (h.mono e) ih
  | lend h _ ih => exact .lend h ih
theorem ParOk.mono {L : LL} {Q : List V → Hp → Prop} {o : RR (List D)} (e : Ex S S') (h : ParOk K G E μ L F S σ Q o) : ParOk K G E μ L F S' σ Q o := by
  cases o with
  | ok ds ρ => exact fun vs S2 H2 e2 h2 q => h vs S2 H2 (e.trans e2) h2 q
  | exc er ρ => exact fun c dct S2 H2 e2 h2 z => h c dct S2 H2 (e.trans e2) h2 z
  | bad => exact h
end
end MR
namespace MR
open PySem L2 PySem.Spec PyProof.Rows
section
variable {K : PySem.W.Frag} {G : Cl} {E : XS} {C : SC} {μ μ' μ1 μa : List Mode} {r : Mode} {X : Cx} {F : Fo} {S S' H H' : Hp} {σ : L2.St} {ρ : List D}
noncomputable def mPSet (p : Pl) (b mv : ME) : MS := fun ρ => match mv ρ with
  | .ok d ρ1 => match p.rd ρ1 ρ1 with
    | none => .bad
    | some _ => match b ρ1 with
      | .ok (.int kk) ρ2 => match p.rd ρ1 ρ2 with
        | some (.lst ds) => match setD ds kk d with
          | some es => .nx (p.put ρ1 ρ2 (.lst es))
          | none => .bad
        | _ => .bad
      | .ok _ _ => .bad
      | .exc e ρ2 => .exc e (p.re ρ1 ρ2)
      | .bad => .bad
  | .exc e ρ1 => .exc e ρ1
  | .bad => .bad
theorem js_pSet {e k v : Expr} {p : Pl} {b mv : ME} {pos pos' : Pos} (hv : JE X G C.E .d μ v mv) (P : PlE X G μ μa shL e p) (hk : JE X G C.E .d μa k b) (w : ModesLe C.μx μ = true := by rfl)
    (hav : ∀ u, assign (.Subscript e k pos') X.env u = (do
      let ov ← holding [u] (eval e X.env)
      let iv ← holding [u, ov] (eval k X.env)
      standAt pos'
      holding [u, ov, iv] (setItem ov iv u)
      release [u, ov, iv] []) := by intro _; rfl)
    (hsw : swapsWithSole [.Subscript e k pos'] v pos.line X.env = pure false := by rfl) (hw : swappedStores [.Subscript e k pos'] v X.env = pure none := by rfl)
    (h1 : (assignEach [.Subscript e k pos'] X.env).map (·.2) = [assign (.Subscript e k pos') X.env] := by rfl) : JS X G C μ μ (.Assign [.Subscript e k pos'] v pos) (mPSet p b mv) := by
  obtain ⟨t, pe, go⟩ := P.ex
  obtain ⟨t2, p2, s2⟩ := hk.ex
  obtain ⟨t3, p3, s3⟩ := hv.ex
  refine ⟨_, ps_asg p3 (pg_sub pe p2 set_list hav) hsw hw h1, fun F S H σ ρ h Dn kn => s3 F S H σ ρ h _ ?_⟩
  unfold mPSet at kn
  cases q0 : mv ρ with
  | ok d ρ1 =>
    rw [q0] at kn
    dsimp only at kn
    intro vv S1 H1 e1 h1
    cases q1 : p.rd ρ1 ρ1 with
    | none => rw [q1] at kn; exact kn.elim
    | some d1 =>
      rw [q1] at kn
      dsimp only at kn
      obtain ⟨q, F', read, fl, h', re⟩ := go F S1 H1 σ ρ1 d1 h1.tail q1
      refine read _ (s2 F' S1 H1 σ ρ1 h' _ ?_)
      cases q2 : b ρ1 with
      | ok kd ρ2 =>
        rw [q2] at kn
        intro w2 S2 H2 e2 h2
        obtain ⟨r1, r2⟩ := re S2 H2 ρ2 e2 h2.tail
        cases kd with
        | int kk =>
          dsimp only at kn
          cases q4 : p.rd ρ1 ρ2 with
          | none => rw [q4] at kn; exact kn.elim
          | some c =>
            rw [q4] at kn
            obtain ⟨f2, f3⟩ := r2 c q4
            obtain ⟨vs, ds, ec, a1, a2⟩ := f2.lst
            subst ec
            dsimp only at kn
            cases q5 : setD ds kk d with
            | none => rw [q5] at kn; exact kn.elim
            | some es =>
              rw [q5] at kn
              have hwi := h2.head
              cases hwi
              unfold setD at q5
              cases q6 : ixN ds.length kk with
              | none => rw [q6] at q5; cases q5
              | some j =>
                rw [q6] at q5
                cases q5
                exact ⟨q, vs, kk, j, rfl, rfl, a1, by rw [a2.length]; exact q6, kn σ S2 _ (e1.trans e2) (f3 _ _ (.up (DatL.set (h1.head.mono e2) j a2)))⟩
        | _ => exact kn.elim
      | exc er ρ2 =>
        rw [q2] at kn
        dsimp only at kn
        exact fun c dct S2 H2 e2 h2 zz => kn μ σ c dct S2 H2 w (e1.trans e2) (re S2 H2 ρ2 e2 h2).1 zz
      | bad => rw [q2] at kn; exact kn
  | exc er ρ1 => rw [q0] at kn; exact xout w kn
  | bad => rw [q0] at kn; exact kn
end
end MR
namespace MR
open PySem L2 PySem.Spec PyProof.Rows
section
variable {K : PySem.W.Frag} {G : Cl} {E : XS} {C : SC} {μ μ' μ1 μa : List Mode} {rm : Mode} {X : Cx} {F : Fo} {S S' H H' : Hp} {σ : L2.St} {ρ : List D}
noncomputable def FsOk (K : PySem.W.Frag) (G : Cl) (E : XS) (μ : List Mode) (F : Fo) (S : Hp) (σ : L2.St) (Q : Str → Hp → Prop) : RR Str → Prop
  | .ok s ρ' => ∀ S' H', Ex S S' → EnvOk K G F S' H' μ σ ρ' → Q s H'
  | .exc e ρ' => XOk K G E μ F S σ e ρ'
  | .bad => False
theorem FsOk.mono {Q : Str → Hp → Prop} {o : RR Str} (e : Ex S S') (h : FsOk K G E μ F S σ Q o) : FsOk K G E μ F S' σ Q o := by
  cases o with
  | ok ds ρ => exact fun S2 H2 e2 h2 => h S2 H2 (e.trans e2) h2
  | exc er ρ => exact fun c dct S2 H2 e2 h2 z => h c dct S2 H2 (e.trans e2) h2 z
  | bad => exact h
end
end MR
namespace L2H
theorem RoomH.units {k : Nat} {A : PySem.Around} (r : RoomH k A) : A.units + 64 < PySem.cLine := by have := r.un; omega
end L2H
namespace MR.CB
open PySem PySem.Spec L2 PySem.Builtin.Itertools
noncomputable def pair : PSigma fun (F : (Nat → List Nat → Option (List Nat)) → Builtin) => PSigma fun (st : Nat → List Nat → Option (List Nat)) => Builtin.«itertools.combinations.__next__» = F st := ⟨_, _, by unfold Builtin.«itertools.combinations.__next__»; rfl⟩
noncomputable abbrev step : Nat → List Nat → Option (List Nat) := pair.2.1
end MR.CB
namespace MR
open PySem L2 PySem.Spec PyProof.Rows
namespace CB
noncomputable def Pos (n : Nat) (L : List (List Nat)) (i : Nat) (st : Int) (ix : List Nat) : Prop :=
  (∀ jx, L[i]? = some jx → (st = 0 ∧ jx = ix) ∨ (st = 1 ∧ step n ix = some jx)) ∧ (L.length ≤ i → st = 2 ∨ (st = 1 ∧ step n ix = none))
end CB
end MR
namespace MR
open PySem L2 PySem.Spec PyProof.Rows
section
variable {K : PySem.W.Frag} {G : Cl} {E : XS} {C : SC} {μ μ' μ1 μ2 μh : List Mode} {r : Mode} {X : Cx} {F : Fo} {S S1 S' H H' : Hp} {σ : L2.St} {ρ : List D}
noncomputable def ownO : HO → Bool
  | .lst _ => true
  | .ins _ _ _ => true
  | .dK _ => true
  | .dT _ => true
  | _ => false
mutual
theorem Own.seen (e : Ex S S1) : ∀ {p : Addr} {d : D} {fp : List Addr}, Own K G S H p d fp → (∀ a ∈ fp, S1 a = H a) → Dat K G S1 (.ref p) d
  | _, _, _, .lst h1 h2, k => .lst ((k _ List.mem_cons_self).trans h1) (OwnL.seen e h2 fun a ha => k a (List.mem_cons_of_mem _ ha))
  | _, _, _, .dK h1 h2 h3, k => .dK ((k _ List.mem_cons_self).trans h1) h2 (OwnL.seen e h3 fun a ha => k a (List.mem_cons_of_mem _ ha))
  | _, _, _, .dT h1 h2 h3, k => .dT ((k _ List.mem_cons_self).trans h1) h2 (OwnL.seen e h3 fun a ha => k a (List.mem_cons_of_mem _ ha))
  | _, _, _, .ins h1 h2 h3, k => .ins ((k _ List.mem_cons_self).trans h1) h2 (OwnL.seen e h3 fun a ha => k a (List.mem_cons_of_mem _ ha))
theorem OwnL.seen (e : Ex S S1) : ∀ {vs : List V} {ds : List D} {fp : List Addr}, OwnL K G S H vs ds fp → (∀ a ∈ fp, S1 a = H a) → DatL K G S1 vs ds
  | _, _, _, .nil, _ => .nil
  | _, _, _, .dat h1 h2, k => .cons (h1.mono e) (OwnL.seen e h2 k)
  | _, _, _, .own h1 h2, k => .cons (Own.seen e h1 fun a ha => k a (List.mem_append_left _ ha)) (OwnL.seen e h2 fun a ha => k a (List.mem_append_right _ ha))
end
mutual
theorem Own.kinds : ∀ {p : Addr} {d : D} {fp : List Addr}, Own K G S H p d fp → ∀ a ∈ fp, ∃ o, H a = some o ∧ ownO o = true
  | _, _, _, .lst h1 h2, a, ha => by
    rcases List.mem_cons.mp ha with z | z
    · rw [z]; exact ⟨_, h1, rfl⟩
    · exact OwnL.kinds h2 a z
  | _, _, _, .dK h1 h2 h3, a, ha => by
    rcases List.mem_cons.mp ha with z | z
    · rw [z]; exact ⟨_, h1, rfl⟩
    · exact OwnL.kinds h3 a z
  | _, _, _, .dT h1 h2 h3, a, ha => by
    rcases List.mem_cons.mp ha with z | z
    · rw [z]; exact ⟨_, h1, rfl⟩
    · exact OwnL.kinds h3 a z
  | _, _, _, .ins h1 h2 h3, a, ha => by
    rcases List.mem_cons.mp ha with z | z
    · rw [z]; exact ⟨_, h1, rfl⟩
    · exact OwnL.kinds h3 a z
theorem OwnL.kinds : ∀ {vs : List V} {ds : List D} {fp : List Addr}, OwnL K G S H vs ds fp → ∀ a ∈ fp, ∃ o, H a = some o ∧ ownO o = true
  | _, _, _, .nil, a, ha => by cases ha
  | _, _, _, .dat h1 h2, a, ha => OwnL.kinds h2 a ha
  | _, _, _, .own h1 h2, a, ha => by
    rcases List.mem_append.mp ha with z | z
    · exact Own.kinds h1 a z
    · exact OwnL.kinds h2 a z
end
theorem Ow.seen (e : Ex S S1) {b : Bool} {sh : Sh} {vs : List V} {ds : List D} {fp : List Addr} (h : Ow K G S H b sh vs ds fp) : (∀ a ∈ fp, S1 a = H a) → DatL K G S1 vs ds := by
  induction h with
  | dat h => exact fun _ => .cons (h.mono e) .nil
  | lst h1 _ ih => exact fun k => .cons (.lst ((k _ List.mem_cons_self).trans h1) (ih fun a ha => k a (List.mem_cons_of_mem _ ha))) .nil
  | ins h1 h2 _ ih => exact fun k => .cons (.ins ((k _ List.mem_cons_self).trans h1) h2 (ih fun a ha => k a (List.mem_cons_of_mem _ ha))) .nil
  | dk h1 h2 h3 => exact fun k => .cons (.dK ((k _ List.mem_cons_self).trans h1) h2 (h3.mono e)) .nil
  | dt h1 h2 h3 => exact fun k => .cons (.dT ((k _ List.mem_cons_self).trans h1) h2 (h3.mono e)) .nil
  | nil => exact fun _ => .nil
  | cons _ _ i1 i2 => exact fun k => (i1 fun a ha => k a (List.mem_append_left _ ha)).append (i2 fun a ha => k a (List.mem_append_right _ ha))
  | all0 => exact fun _ => .nil
  | all _ _ i1 i2 => exact fun k => (i1 fun a ha => k a (List.mem_append_left _ ha)).append (i2 fun a ha => k a (List.mem_append_right _ ha))
theorem Ow.kinds {b : Bool} {sh : Sh} {vs : List V} {ds : List D} {fp : List Addr} (h : Ow K G S H b sh vs ds fp) : ∀ a ∈ fp, ∃ o, H a = some o ∧ ownO o = true := by
  induction h with
  | dat h => intro a ha; cases ha
  | lst h1 _ ih =>
    intro a ha
    rcases List.mem_cons.mp ha with z | z
    · rw [z]; exact ⟨_, h1, rfl⟩
    · exact ih a z
  | ins h1 h2 _ ih =>
    intro a ha
    rcases List.mem_cons.mp ha with z | z
    · rw [z]; exact ⟨_, h1, rfl⟩
    · exact ih a z
  | dk h1 h2 h3 => intro a ha; rw [List.mem_singleton.mp ha]; exact ⟨_, h1, rfl⟩
  | dt h1 h2 h3 => intro a ha; rw [List.mem_singleton.mp ha]; exact ⟨_, h1, rfl⟩
  | nil => intro a ha; cases ha
  | cons _ _ i1 i2 =>
    intro a ha
    rcases List.mem_append.mp ha with z | z
    · exact i1 a z
    · exact i2 a z
  | all0 => intro a ha; cases ha
  | all _ _ i1 i2 =>
    intro a ha
    rcases List.mem_append.mp ha with z | z
    · exact i1 a z
    · exact i2 a z
theorem SlotOk.seen {pin : Nat → Addr} {m : Mode} {sv : Option (Option V)} {d : D} {fp : List Addr} (e : Ex S S1) (h : SlotOk K G pin S H m sv d fp) (hm : isOwn m = true ∨ m = .d) (k : ∀ a ∈ fp, S1 a = H a) : SlotOk K G pin S1 H .d sv d [] := by
  cases m with
  | x => rcases hm with z | z <;> cases z
  | d => exact ⟨rfl, let ⟨v, a, b⟩ := h.2; ⟨v, a, b.mono e⟩⟩
  | o => obtain ⟨p, a, b, c⟩ := h; exact ⟨rfl, _, a, b.seen e k⟩
  | w _ =>
    obtain ⟨p, a, b⟩ := h
    cases b.seen e k with
    | cons q _ => exact ⟨rfl, _, a, q⟩
  | s _ _ =>
    obtain ⟨a, b⟩ := h
    cases b.seen e k with
    | cons q _ => exact ⟨rfl, _, a, q⟩
  | e _ => rcases hm with z | z <;> cases z
theorem SlotOk.kinds {pin : Nat → Addr} {m : Mode} {sv : Option (Option V)} {d : D} {fp : List Addr} (h : SlotOk K G pin S H m sv d fp) : ∀ a ∈ fp, ∃ o, H a = some o ∧ ownO o = true := by
  cases m with
  | x => intro a ha; rw [show fp = [] from h] at ha; cases ha
  | d => intro a ha; rw [h.1] at ha; cases ha
  | o => obtain ⟨p, _, b, _⟩ := h; exact b.kinds
  | w _ => obtain ⟨p, _, b⟩ := h; exact b.kinds
  | s _ _ => exact h.2.kinds
  | e _ => intro a ha; rw [h.1] at ha; cases ha
theorem Own.ne {p : Addr} {d : D} {fp : List Addr} (h : Own K G S H p d fp) : fp ≠ [] := by cases h <;> simp
theorem OwnL.flatD : ∀ {vs : List V} {ds : List D} {fp : List Addr}, OwnL K G S H vs ds fp → fp = [] → DatL K G S vs ds
  | _, _, _, .nil, _ => .nil
  | _, _, _, .dat h1 h2, k => .cons h1 (OwnL.flatD h2 k)
  | _, _, _, .own h1 h2, k => absurd (List.append_eq_nil_iff.mp k).1 h1.ne
mutual
noncomputable def noL : D → Bool
  | .non => true
  | .bl _ => true
  | .int _ => true
  | .str _ => true
  | .tup ds => noLs ds
  | _ => false
noncomputable def noLs : List D → Bool
  | [] => true
  | d :: ds => noL d && noLs ds
end
mutual
theorem Dat.move (e : ∀ a o, S a = some o → ownO o = false → S1 a = some o) : ∀ {v : V} {d : D}, Dat K G S v d → noL d = true → Dat K G S1 v d
  | _, _, .non, _ => .non
  | _, _, .bl b, _ => .bl b
  | _, _, .int i, _ => .int i
  | _, _, .str x, _ => .str x
  | _, _, .tup h1 h2, n => .tup (by
      rcases h1 with (q | ⟨o, q⟩) | q
      · exact .inl (.inl (e _ _ q rfl))
      · exact .inl (.inr ⟨o, e _ _ q rfl⟩)
      · exact .inr q) (DatL.move e h2 n)
  | _, _, .lst _ _, n => by cases n
  | _, _, .scr _, n => by cases n
  | _, _, .dK _ _ _, n => by cases n
  | _, _, .dT _ _ _, n => by cases n
  | _, _, .ins _ _ _, n => by cases n
theorem DatL.move (e : ∀ a o, S a = some o → ownO o = false → S1 a = some o) : ∀ {vs : List V} {ds : List D}, DatL K G S vs ds → noLs ds = true → DatL K G S1 vs ds
  | _, _, .nil, _ => .nil
  | _, _, .cons h t, n => by
    rw [noLs, Bool.and_eq_true] at n
    exact .cons (Dat.move e h n.1) (DatL.move e t n.2)
end
noncomputable def see2 (m : Mode) : Mode → Bool
  | .x => true
  | .d => (match m with | .d => true | _ => isOwn m)
  | _ => false
noncomputable def seeN : List Mode → List Mode → Bool
  | [], [] => true
  | m :: a, n :: b => see2 m n && seeN a b
  | _, _ => false
theorem seeN_len : ∀ {a b : List Mode}, seeN a b = true → b.length = a.length
  | [], [], _ => rfl
  | [], _ :: _, h => by cases h
  | _ :: _, [], h => by cases h
  | m :: a, n :: b, h => by
    unfold seeN at h
    rw [Bool.and_eq_true] at h
    rw [List.length_cons, List.length_cons, seeN_len h.2]
theorem seeN_at : ∀ {a b : List Mode} {i : Nat} {n : Mode}, seeN a b = true → b[i]? = some n → n = .x ∨ (n = .d ∧ ∃ m, a[i]? = some m ∧ (isOwn m = true ∨ m = .d))
  | [], [], i, n, _, e => by simp at e
  | [], _ :: _, i, n, h, _ => by cases h
  | _ :: _, [], i, n, h, _ => by cases h
  | m :: a, n0 :: b, i, n, h, e => by
    unfold seeN at h
    rw [Bool.and_eq_true] at h
    cases i with
    | zero =>
      cases e
      have h1 := h.1
      cases n0 with
      | x => exact .inl rfl
      | d =>
        refine .inr ⟨rfl, m, rfl, ?_⟩
        cases m with
        | d => exact .inr rfl
        | _ => exact .inl h1
      | _ => cases h1
    | succ i =>
      rw [List.getElem?_cons_succ] at e ⊢
      exact seeN_at h.2 e
noncomputable def seeR (r : Mode) (d : D) : Bool := match r with
  | .d => noL d
  | .o => (match d with | .lst ds => noLs ds | _ => false)
  | _ => false
noncomputable def mSee (r : Mode) (m : ME) : ME := fun ρ => match m ρ with
  | .ok d _ => if seeR r d = true then .ok d ρ else .bad
  | .exc e _ => .exc e ρ
  | .bad => .bad
theorem see_env (h : EnvOk K G F S H μ σ ρ) (hs : seeN μ μh = true) : ∃ S1, Ex S S1 ∧ EnvOk K G ⟨restB H S1 [], F.pin, restB_nt⟩ S1 H μh σ ρ ∧
    ∀ S' H' m sv d ρ', Ex S1 S' → EnvOk K G ⟨restB H S1 [], F.pin, restB_nt⟩ S' H' (m :: μh) (sv :: σ) (d :: ρ') → (m = .x ∨ seeR m d = true) → ∃ S2, Ex S S2 ∧ (∀ a o, S' a = some o → ownO o = false → S2 a = some o) ∧ EnvOk K G F S2 H' (m :: μ) (sv :: σ) (d :: ρ) := by
  obtain ⟨fp, ⟨f1, f2, f3⟩, f4, sl, th⟩ := h.fps
  generalize hFP : ((List.range μ.length).filter fun i => decide (μh[i]? = some .d)).flatMap fp = FP
  have inFP : ∀ a, a ∈ FP ↔ ∃ i, i < μ.length ∧ μh[i]? = some .d ∧ a ∈ fp i := fun a => by
    rw [← hFP, List.mem_flatMap]
    constructor
    · rintro ⟨i, hi, ha⟩
      rw [List.mem_filter, List.mem_range, decide_eq_true_iff] at hi
      exact ⟨i, hi.1, hi.2, ha⟩
    · rintro ⟨i, h1, h2, h3⟩
      exact ⟨i, List.mem_filter.mpr ⟨List.mem_range.mpr h1, decide_eq_true h2⟩, h3⟩
  have fS : ∀ a ∈ FP, S a = none := fun a ha => by
    obtain ⟨i, _, _, hb⟩ := (inFP a).mp ha
    exact (f1 i a hb).1
  have fF : ∀ a ∈ FP, F a = none := fun a ha => by
    obtain ⟨i, _, _, hb⟩ := (inFP a).mp ha
    exact (f1 i a hb).2
  have kd : ∀ i a, a ∈ fp i → ∃ o, H a = some o ∧ ownO o = true := fun i a ha => by
    cases q : μ[i]? with
    | none =>
      rw [f4 i (List.getElem?_eq_none_iff.mp q)] at ha
      cases ha
    | some m => exact (sl i m q).kinds a ha
  let S1 : Hp := fun a => if a ∈ FP then H a else S a
  have S1in : ∀ a ∈ FP, S1 a = H a := fun a ha => if_pos ha
  have S1out : ∀ a, a ∉ FP → S1 a = S a := fun a ha => if_neg ha
  have e01 : Ex S S1 := fun a o q => by
    by_cases z : a ∈ FP
    · rw [fS a z] at q; cases q
    · rw [S1out a z]; exact q
  have sh1 : Ex S1 H := fun a o q => by
    by_cases z : a ∈ FP
    · rw [S1in a z] at q; exact q
    · rw [S1out a z] at q; exact h.sh a o q
  have en : EnvOk K G ⟨restB H S1 [], F.pin, restB_nt⟩ S1 H μh σ ρ := by
    refine ⟨sh1, fun a o z => ⟨(restB_some (H := H) (S := S1) (fp := []) z).1, (restB_some (H := H) (S := S1) (fp := []) z).2.1⟩, by rw [seeN_len hs]; exact h.ls, by rw [seeN_len hs]; exact h.lr, fun _ => [], ⟨fun _ _ q => (by cases q), fun _ _ _ q => (by cases q), fun _ => List.nodup_nil⟩, fun _ _ => rfl, fun i n en => ?_⟩
    rcases seeN_at hs en with z | ⟨z, mo, hm, y⟩
    · subst z; rfl
    · subst z
      have il : i < μ.length := (List.getElem?_eq_some_iff.mp hm).1
      exact (sl i mo hm).seen e01 y fun a ha => S1in a ((inFP a).mpr ⟨i, il, en, ha⟩)
  refine ⟨S1, e01, en, fun S' H' m sv d ρ' e1 h' hr => ?_⟩
  obtain ⟨gp, ⟨g1, g2, g3⟩, g4, gl, gt⟩ := h'.fps
  have stay : ∀ a o, H a = some o → noTup o = true → S a = none → H' a = some o := fun a o q1 q2 q3 => by
    by_cases z : a ∈ FP
    · exact h'.sh a o (e1 a o (by rw [S1in a z]; exact q1))
    · exact (h'.fk a o (restB_of (H := H) (S := S1) (fp := []) q1 (by rw [S1out a z]; exact q3) (by simp) q2)).1
  let S2 : Hp := fun a => if a ∈ FP then none else S' a
  have S2in : ∀ a ∈ FP, S2 a = none := fun a ha => if_pos ha
  have S2out : ∀ a, a ∉ FP → S2 a = S' a := fun a ha => if_neg ha
  have e02 : Ex S S2 := fun a o q => by
    have z : a ∉ FP := fun z => by rw [fS a z] at q; cases q
    rw [S2out a z]
    exact e1 a o (e01 a o q)
  have mv : ∀ a o, S' a = some o → ownO o = false → S2 a = some o := fun a o q n => by
    by_cases z : a ∈ FP
    · obtain ⟨i, _, _, hb⟩ := (inFP a).mp z
      obtain ⟨o2, k1, k2⟩ := kd i a hb
      rw [e1 a o2 (by rw [S1in a z]; exact k1)] at q
      cases q
      rw [k2] at n
      cases n
    · rw [S2out a z]; exact q
  have notS' : ∀ i a, a ∈ fp i → S2 a = none ∧ (a ∈ FP ∨ (∃ o, H a = some o ∧ restB H S1 [] a = some o)) := fun i a ha => by
    by_cases z : a ∈ FP
    · exact ⟨S2in a z, .inl z⟩
    · obtain ⟨o, k1, k2⟩ := th i a ha
      have rb := restB_of (H := H) (S := S1) (fp := []) k1 (by rw [S1out a z]; exact (f1 i a ha).1) (by simp) k2
      exact ⟨by rw [S2out a z]; exact (h'.fk a o rb).2, .inr ⟨o, k1, rb⟩⟩
  have g0 : ∀ a ∈ gp 0, S' a = none ∧ a ∉ FP ∧ F a = none ∧ ∀ i, a ∉ fp i := fun a ha => by
    obtain ⟨q1, q2⟩ := g1 0 a ha
    have nF : a ∉ FP := fun z => by
      obtain ⟨i, _, _, hb⟩ := (inFP a).mp z
      obtain ⟨o, k1, _⟩ := kd i a hb
      rw [e1 a o (by rw [S1in a z]; exact k1)] at q1
      cases q1
    refine ⟨q1, nF, ?_, fun i hi => ?_⟩
    · cases y : F a with
      | none => rfl
      | some o =>
        obtain ⟨y1, y2⟩ := h.fk a o y
        have : restB H S1 [] a = some o := restB_of y1 (by rw [S1out a nF]; exact y2) (by simp) (F.nt a o y)
        have q2 : restB H S1 [] a = none := q2
        rw [this] at q2
        cases q2
    · rcases (notS' i a hi).2 with z | ⟨o, _, rb⟩
      · exact nF z
      · have q2 : restB H S1 [] a = none := q2
        rw [rb] at q2
        cases q2
  refine ⟨S2, e02, mv, ⟨fun a o q => ?_, fun a o z => ?_, by simp [h.ls], by simp [h.lr], fun i => match i with | 0 => gp 0 | i + 1 => fp i, ⟨?_, ?_, ?_⟩, ?_, ?_⟩⟩
  · by_cases z : a ∈ FP
    · rw [S2in a z] at q; cases q
    · rw [S2out a z] at q; exact h'.sh a o q
  · obtain ⟨y1, y2⟩ := h.fk a o z
    have nF : a ∉ FP := fun y => by rw [fF a y] at z; cases z
    refine ⟨stay a o y1 (F.nt a o z) y2, ?_⟩
    rw [S2out a nF]
    exact (h'.fk a o (restB_of (H := H) (S := S1) (fp := []) y1 (by rw [S1out a nF]; exact y2) (by simp) (F.nt a o z))).2
  · intro i a ha
    cases i with
    | zero =>
      obtain ⟨q1, q2, q3, _⟩ := g0 a ha
      exact ⟨by rw [S2out a q2]; exact q1, q3⟩
    | succ i => exact ⟨(notS' i a ha).1, (f1 i a ha).2⟩
  · intro i j a ha hb
    cases i with
    | zero =>
      cases j with
      | zero => rfl
      | succ j => exact absurd hb ((g0 a ha).2.2.2 j)
    | succ i =>
      cases j with
      | zero => exact absurd ha ((g0 a hb).2.2.2 i)
      | succ j => exact congrArg (· + 1) (f2 i j a ha hb)
  · intro i
    cases i with
    | zero => exact g3 0
    | succ i => exact f3 i
  · intro i hi
    cases i with
    | zero => simp at hi
    | succ i => exact f4 i (by simpa using hi)
  · intro i n q
    cases i with
    | zero =>
      have z := gl 0 m rfl
      simp only [List.getElem?_cons_zero, Option.some.injEq] at q
      subst q
      show SlotOk K G F.pin S2 H' m (some sv) d (gp 0)
      rcases hr with y | y
      · subst y; exact z
      · cases m with
        | d =>
          obtain ⟨z1, v, z2, z3⟩ := z
          exact ⟨z1, v, z2, z3.move mv y⟩
        | o =>
          obtain ⟨p, z1, z2, z3⟩ := z
          refine ⟨p, z1, ?_, z3⟩
          have z4 : Own K G S' H' p d (gp 0) := z2
          rw [z3] at z4 ⊢
          cases z4 with
          | @lst _ vs ds fp2 a1 a2 =>
            exact .lst a1 ((a2.flatD rfl).move mv y).ownL
          | _ => cases y
        | _ => cases y
    | succ i =>
      have q' : μ[i]? = some n := by simpa using q
      refine (sl i n q').mono e02 fun a ha => ?_
      obtain ⟨o, ho, nt⟩ := th i a ha
      rw [stay a o ho nt (f1 i a ha).1, ho]
theorem je_see {e : Expr} {m : ME} (h : JE X G E r μh e m) (hs : seeN μ μh = true := by rfl) : JE X G E r μ e (mSee r m) := by
  obtain ⟨t1, p1, s1⟩ := h.ex
  refine ⟨t1, p1, fun F S H σ ρ h Q k => ?_⟩
  obtain ⟨S1, e1, en, bk⟩ := see_env h hs
  refine s1 _ S1 H σ ρ en _ ?_
  unfold mSee at k
  cases q : m ρ with
  | ok d ρ1 =>
    rw [q] at k
    simp only at k
    split at k
    · rename_i hr
      intro v S' H' e2 h'
      obtain ⟨S2, e3, _, h2⟩ := bk S' H' r (some v) d ρ1 e2 h' (.inr hr)
      exact k v S2 H' e3 h2
    · exact k.elim
  | exc er ρ1 =>
    rw [q] at k
    intro c dct S' H' e2 h' ea
    obtain ⟨S2, e3, mv, h2⟩ := bk S' H' .x none .non ρ1 e2 h'.pushX (.inl rfl)
    refine k c dct S2 H' e3 h2.tail ⟨ea.1, ?_⟩
    have l := ea.2
    cases er with
    | line n =>
      obtain ⟨q1, q2, q3⟩ := l
      exact ⟨q1, q2, mv _ _ q3 rfl⟩
    | _ => exact l
  | bad => rw [q] at k; exact k.elim
noncomputable def mSeeB (m : MT) : MT := fun ρ => match m ρ with
  | .ok b _ => .ok b ρ
  | .exc e _ => .exc e ρ
  | .bad => .bad
theorem jt_seeN {e : Expr} {m : MT} (h : JT X G E μh e m) (hs : seeN μ μh = true := by rfl) : JT X G E μ e (mSeeB m) := by
  obtain ⟨t1, p1, s1⟩ := h.ex
  refine ⟨t1, p1, fun F S H σ ρ h Q k => ?_⟩
  obtain ⟨S1, e1, en, bk⟩ := see_env h hs
  refine s1 _ S1 H σ ρ en _ ?_
  unfold mSeeB at k
  cases q : m ρ with
  | ok d ρ1 =>
    rw [q] at k
    intro S' H' e2 h'
    obtain ⟨S2, e3, _, h2⟩ := bk S' H' .x none .non ρ1 e2 h'.pushX (.inl rfl)
    exact k S2 H' e3 h2.tail
  | exc er ρ1 =>
    rw [q] at k
    intro c dct S' H' e2 h' ea
    obtain ⟨S2, e3, mv, h2⟩ := bk S' H' .x none .non ρ1 e2 h'.pushX (.inl rfl)
    refine k c dct S2 H' e3 h2.tail ⟨ea.1, ?_⟩
    have l := ea.2
    cases er with
    | line n =>
      obtain ⟨q1, q2, q3⟩ := l
      exact ⟨q1, q2, mv _ _ q3 rfl⟩
    | _ => exact l
  | bad => rw [q] at k; exact k.elim
end
end MR
namespace MR
open PySem L2 PySem.Spec PyProof.Rows
section
variable {K : PySem.W.Frag} {G : Cl} {E : XS} {C : SC} {μ μ' μ1 μ2 μa : List Mode} {r : Mode} {X : Cx} {F : Fo} {S S' H H' : Hp} {σ : L2.St} {ρ : List D}
noncomputable abbrev shLL : Sh := .l (.all (.l (.all .d)))
theorem EnvOk.regroup {i : Nat} {m0 m m' : Mode} {s0 : V} {d0 d' : D} (h : EnvOk K G F S H (m0 :: μ) (some s0 :: σ) (d0 :: ρ)) (hm : μ[i]? = some m)
    (go : ∀ f0 f1, SlotOk K G F.pin S H m0 (some (some s0)) d0 f0 → SlotOk K G F.pin S H m (σ[i]?) (ρ.getD i .non) f1 → f0.Nodup → f1.Nodup → (∀ a ∈ f0, a ∉ f1) → ∃ f', SlotOk K G F.pin S H' m' (σ[i]?) d' f' ∧ f'.Nodup ∧ (∀ a ∈ f', a ∈ f0 ∨ a ∈ f1) ∧ ∀ a, a ∉ f0 → a ∉ f1 → H' a = H a) :
    EnvOk K G F S H' (μ.set i m') σ (ρ.set i d') := by
  obtain ⟨fp, ⟨f1, f2, f3⟩, f4, sl, th⟩ := h.fps
  have hi : i < μ.length := (List.getElem?_eq_some_iff.mp hm).1
  have s0' := sl 0 m0 rfl
  have s1' := sl (i + 1) m (by simpa using hm)
  simp only [List.getElem?_cons_zero, List.getElem?_cons_succ, List.getD_cons_zero, List.getD_cons_succ] at s0' s1'
  obtain ⟨f', g1, g2, g3, g4⟩ := go (fp 0) (fp (i + 1)) s0' s1' (f3 0) (f3 (i + 1)) (fun a ha hb => by have := f2 0 (i + 1) a ha hb; omega)
  have ls : σ.length = μ.length := by have := h.ls; simpa using this
  have lr : ρ.length = μ.length := by have := h.lr; simpa using this
  have keepS : ∀ a o, S a = some o → H' a = H a := fun a o e => g4 a (fun z => by rw [(f1 0 a z).1] at e; cases e) fun z => by rw [(f1 (i + 1) a z).1] at e; cases e
  have keepF : ∀ a o, F a = some o → H' a = H a := fun a o e => g4 a (fun z => by rw [(f1 0 a z).2] at e; cases e) fun z => by rw [(f1 (i + 1) a z).2] at e; cases e
  refine ⟨fun a o e => by rw [keepS a o e]; exact h.sh _ _ e, fun a o e => by rw [keepF a o e]; exact h.fk a o e, by simp [ls], by simp [lr], fun j => if j = i then f' else fp (j + 1), ⟨?_, ?_, ?_⟩, ?_, ?_⟩
  · intro j a ha
    by_cases z : j = i
    · rw [if_pos z] at ha
      rcases g3 a ha with w | w
      · exact f1 0 a w
      · exact f1 (i + 1) a w
    · rw [if_neg z] at ha
      exact f1 (j + 1) a ha
  · intro j k a ha hb
    by_cases z : j = i
    · by_cases z2 : k = i
      · omega
      · rw [if_pos z] at ha
        rw [if_neg z2] at hb
        rcases g3 a ha with w | w
        · have := f2 0 (k + 1) a w hb; omega
        · have := f2 (i + 1) (k + 1) a w hb; omega
    · by_cases z2 : k = i
      · rw [if_neg z] at ha
        rw [if_pos z2] at hb
        rcases g3 a hb with w | w
        · have := f2 0 (j + 1) a w ha; omega
        · have := f2 (i + 1) (j + 1) a w ha; omega
      · rw [if_neg z] at ha
        rw [if_neg z2] at hb
        have := f2 (j + 1) (k + 1) a ha hb
        omega
  · intro j
    show (if j = i then f' else fp (j + 1)).Nodup
    split
    · exact g2
    · exact f3 (j + 1)
  · intro j hj
    rw [List.length_set] at hj
    show (if j = i then f' else fp (j + 1)) = []
    rw [if_neg (by omega)]
    exact f4 (j + 1) (by simp; omega)
  · intro j m2 e
    by_cases z : j = i
    · subst z
      rw [List.getElem?_set_self hi] at e
      cases e
      have : (ρ.set j d').getD j .non = d' := by simp [List.getD, List.getElem?_set_self (show j < ρ.length by omega)]
      rw [this]
      show SlotOk K G F.pin S H' _ _ _ (if j = j then f' else fp (j + 1))
      rw [if_pos rfl]
      exact g1
    · rw [List.getElem?_set_ne (Ne.symm z)] at e
      have e2 : (ρ.set i d').getD j .non = ρ.getD j .non := by simp [List.getD, List.getElem?_set_ne (Ne.symm z)]
      rw [e2]
      show SlotOk K G F.pin S H' m2 _ _ (if j = i then f' else fp (j + 1))
      rw [if_neg z]
      have w := sl (j + 1) m2 (by simpa using e)
      simp only [List.getElem?_cons_succ, List.getD_cons_succ] at w
      exact w.mono (Evl.Ex.refl S) fun a ha => g4 a (fun y => by have := f2 0 (j + 1) a y ha; omega) fun y => by have := f2 (i + 1) (j + 1) a y ha; omega
theorem Ow.allSnoc {q : Bool} {row : Sh} {vs : List V} {ds : List D} {fp : List Addr} (h : Ow K G S H q row vs ds fp) : ∀ {s : Sh} {v : V} {d : D} {f1 : List Addr}, q = true → row = .all s → Ow K G S H false s [v] [d] f1 → Ow K G S H true (.all s) (vs ++ [v]) (ds ++ [d]) (fp ++ f1) := by
  induction h with
  | all0 =>
    intro s v d f1 _ e w
    have := Ow.all w (Ow.all0 (K := K) (G := G) (S := S) (H := H) (s := s))
    rw [List.append_nil] at this
    exact this
  | all a1 a2 _ i2 =>
    intro s v d f1 _ e w
    cases e
    have := Ow.all a1 (i2 rfl rfl w)
    rw [← List.append_assoc] at this
    exact this
  | nil => intro s v d f1 _ e; cases e
  | cons _ _ _ _ => intro s v d f1 _ e; cases e
  | _ => intro s v d f1 q; cases q
theorem Ow.allSet {q : Bool} {row : Sh} {vs : List V} {ds : List D} {fp : List Addr} (h : Ow K G S H q row vs ds fp) : ∀ {s : Sh} {v : V} {d : D} {f1 : List Addr} {j : Nat}, q = true → row = .all s → j < vs.length → Ow K G S H false s [v] [d] f1 → f1.Nodup → fp.Nodup → (∀ a ∈ f1, a ∉ fp) →
    ∃ f', Ow K G S H true (.all s) (vs.set j v) (ds.set j d) f' ∧ f'.Nodup ∧ ∀ a ∈ f', a ∈ f1 ∨ a ∈ fp := by
  induction h with
  | all0 => intro s v d f1 j _ _ hj; simp at hj
  | @all s0 v0 d0 vs ds g1 g2 a1 a2 _ i2 =>
    intro s v d f1 j _ e hj w n1 n2 ap
    cases e
    obtain ⟨k1, k2, k3⟩ := List.nodup_append.mp n2
    cases j with
    | zero =>
      refine ⟨f1 ++ g2, Ow.all w a2, List.nodup_append.mpr ⟨n1, k2, fun a ha b hb z => ap a ha (by rw [z]; exact List.mem_append_right _ hb)⟩, fun a ha => ?_⟩
      rcases List.mem_append.mp ha with z | z
      · exact .inl z
      · exact .inr (List.mem_append_right _ z)
    | succ j =>
      obtain ⟨f', b1, b2, b3⟩ := i2 (j := j) rfl rfl (by simpa using hj) w n1 k2 fun a ha hb => ap a ha (List.mem_append_right _ hb)
      refine ⟨g1 ++ f', Ow.all a1 b1, List.nodup_append.mpr ⟨k1, b2, fun a ha b hb z => ?_⟩, fun a ha => ?_⟩
      · subst z
        rcases b3 a hb with y | y
        · exact ap a y (List.mem_append_left _ ha)
        · exact k3 a ha a y rfl
      · rcases List.mem_append.mp ha with z | z
        · exact .inr (List.mem_append_left _ z)
        · rcases b3 a z with y | y
          · exact .inl y
          · exact .inr (List.mem_append_right _ y)
  | nil => intro s v d f1 j _ e; cases e
  | cons _ _ _ _ => intro s v d f1 j _ e; cases e
  | _ => intro s v d f1 j q; cases q
theorem slot_flat {pin : Nat → Addr} {s0 : V} {es : List D} {fp : List Addr} (h : SlotOk K G pin S H .o (some (some s0)) (.lst es) fp) : ∃ q, s0 = .ref q ∧ fp = [q] ∧ Ow K G S H false (.l (.all .d)) [.ref q] [.lst es] [q] := by
  obtain ⟨p, hp, ow, _⟩ := slot_ow (sh := .l (.all .d)) h rfl rfl
  cases hp
  obtain ⟨q, e, rfl⟩ := ow.one rfl
  cases e
  exact ⟨p, rfl, rfl, ow⟩
theorem EnvOk.appW {i : Nat} {mo : Mode} {s0 : V} {es ds : List D} (h : EnvOk K G F S H (.o :: μ) (some s0 :: σ) (.lst es :: ρ)) (hm : μ[i]? = some mo) (hs : shS mo shLL = true) (hd : ρ.getD i .non = .lst ds) :
    ∃ p vs, σ[i]? = some (some (.ref p)) ∧ H p = some (.lst vs) ∧ vs.length = ds.length ∧ EnvOk K G F S (upd H p (.lst (vs ++ [s0]))) μ σ (ρ.set i (.lst (ds ++ [.lst es]))) ∧
      ∀ j, j < vs.length → EnvOk K G F S (upd H p (.lst (vs.set j s0))) μ σ (ρ.set i (.lst (ds.set j (.lst es)))) := by
  have hi : i < μ.length := (List.getElem?_eq_some_iff.mp hm).1
  obtain ⟨fq, sl, _, _⟩ := h.lend (i := i + 1) (m := mo) (by simpa using hm)
  simp only [List.getElem?_cons_succ, List.getD_cons_succ] at sl
  have hk : kindOk shLL (ρ.getD i .non) = true := by rw [hd]; rfl
  obtain ⟨p, hp, ow, _⟩ := slot_ow sl hs hk
  have e3 : μ.set i mo = μ := by
    have := set_back (l := μ) (i := i) (a := mo) (b := mo) hm
    rw [List.set_set] at this
    exact this
  rw [hd] at ow
  cases ow with
  | @lst _ row vs _ g a1 a2 =>
    refine ⟨p, vs, hp, a1, a2.length, ?_, fun j hj => ?_⟩
    · have := h.regroup (i := i) (m := mo) (m' := mo) (d' := .lst (ds ++ [.lst es])) (H' := upd H p (.lst (vs ++ [s0]))) hm fun f0 f1 z0 z1 n0 n1 ap => by
        obtain ⟨q, rfl, rfl, w⟩ := slot_flat z0
        obtain ⟨p', hp', ow', bk⟩ := slot_ow z1 hs hk
        rw [hp] at hp'
        cases hp'
        rw [hd] at ow'
        cases ow' with
        | @lst _ _ vs' _ g' b1 b2 =>
          rw [a1] at b1
          cases b1
          obtain ⟨n2, n3⟩ := List.nodup_cons.mp n1
          have qp : q ≠ p := fun z => ap q List.mem_cons_self (z ▸ List.mem_cons_self)
          have qg : q ∉ g' := fun z => ap q List.mem_cons_self (List.mem_cons_of_mem _ z)
          refine ⟨p :: (g' ++ [q]), bk S _ _ _ (Ow.lst upd_same ((b2.allSnoc rfl rfl w).mono (Evl.Ex.refl S) fun a ha => upd_ne ?_)), List.nodup_cons.mpr ⟨fun z => ?_, List.nodup_append.mpr ⟨n3, List.nodup_cons.mpr ⟨by simp, List.nodup_nil⟩, fun a ha b hb z => ?_⟩⟩, fun a ha => ?_, fun a h0 h1 => upd_ne fun z => h1 (z ▸ List.mem_cons_self)⟩
          · intro z
            subst z
            rcases List.mem_append.mp ha with y | y
            · exact n2 y
            · exact qp (List.mem_singleton.mp y).symm
          · rcases List.mem_append.mp z with y | y
            · exact n2 y
            · exact qp (List.mem_singleton.mp y).symm
          · rw [List.mem_singleton.mp hb] at z
            exact qg (z ▸ ha)
          · rcases List.mem_cons.mp ha with y | y
            · exact .inr (y ▸ List.mem_cons_self)
            · rcases List.mem_append.mp y with y | y
              · exact .inr (List.mem_cons_of_mem _ y)
              · exact .inl y
      rwa [e3] at this
    · have := h.regroup (i := i) (m := mo) (m' := mo) (d' := .lst (ds.set j (.lst es))) (H' := upd H p (.lst (vs.set j s0))) hm fun f0 f1 z0 z1 n0 n1 ap => by
        obtain ⟨q, rfl, rfl, w⟩ := slot_flat z0
        obtain ⟨p', hp', ow', bk⟩ := slot_ow z1 hs hk
        rw [hp] at hp'
        cases hp'
        rw [hd] at ow'
        cases ow' with
        | @lst _ _ vs' _ g' b1 b2 =>
          rw [a1] at b1
          cases b1
          obtain ⟨n2, n3⟩ := List.nodup_cons.mp n1
          have qp : q ≠ p := fun z => ap q List.mem_cons_self (z ▸ List.mem_cons_self)
          have qg : q ∉ g' := fun z => ap q List.mem_cons_self (List.mem_cons_of_mem _ z)
          obtain ⟨f', c1, c2, c3⟩ := b2.allSet (j := j) rfl rfl hj w n0 n3 fun a ha hb => by rw [List.mem_singleton.mp ha] at hb; exact qg hb
          have pf : p ∉ f' := fun z => by
            rcases c3 p z with y | y
            · exact qp (List.mem_singleton.mp y).symm
            · exact n2 y
          refine ⟨p :: f', bk S _ _ _ (Ow.lst upd_same (c1.mono (Evl.Ex.refl S) fun a ha => upd_ne fun z => pf (z ▸ ha))), List.nodup_cons.mpr ⟨pf, c2⟩, fun a ha => ?_, fun a h0 h1 => upd_ne fun z => h1 (z ▸ List.mem_cons_self)⟩
          rcases List.mem_cons.mp ha with y | y
          · exact .inr (y ▸ List.mem_cons_self)
          · rcases c3 a y with y | y
            · exact .inl y
            · exact .inr (List.mem_cons_of_mem _ y)
      rwa [e3] at this
end
end MR
namespace MR
open PySem L2 PySem.Spec PyProof.Rows
section
variable {K : PySem.W.Frag} {G : Cl} {E : XS} {C : SC} {μ μ' μ1 μ2 μa : List Mode} {r : Mode} {X : Cx} {F : Fo} {S S' H H' : Hp} {σ : L2.St} {ρ : List D}
noncomputable def mWApp (i : Nat) (m : ME) : ME := fun ρ => match ρ.getD i .non with
  | .lst _ => (match m ρ with
    | .ok (.lst es) ρ1 => (match ρ1.getD i .non with
      | .lst ds => if ds.length < 1000000 then .ok .non (ρ1.set i (.lst (ds ++ [.lst es]))) else .bad
      | _ => .bad)
    | .ok _ _ => .bad
    | .exc e ρ1 => .exc e ρ1
    | .bad => .bad)
  | _ => .bad
theorem je_wAppend {i : Nat} {mo : Mode} {x : Str} {a0 : Expr} {m : ME} {p2 ap cp : Pos} (ha : JE X G E .o μ a0 m) (hm : μ[i]? = some mo := by rfl) (hs : shS mo shLL = true := by rfl)
    (hN : X.N[i]? = some x := by rfl) (hx : Vis X.env.scope x := by first | exact Or.inl rfl | exact Or.inr (Or.inl rfl) | exact Or.inr (Or.inr rfl)) (hd : (x == ("__debug__" : Str)) = false := by decide) (hcd : (x == ("__classdict__" : Str)) = false := by decide)
    (hb : attributeBase (.Name x p2) "append" X.env (eval (.Name x p2) X.env) = eval (.Name x p2) X.env := by rfl)
    (hf : ((backTo cp (starEach [a0] X.env)).all (fun x => !x.1) && (backToKw cp (keywordEach [] X.env)).all (fun x => x.1.isSome) && decide ([a0].length + ([] : List Keyword).length + (if ([] : List Keyword).isEmpty then 0 else 1) < 30)) = true := by rfl)
    (hl : (ap.endLine == cp.line) = true := by rfl) (hst : starEach [a0] X.env = (false, eval a0 X.env) :: starEach [] X.env := by rfl) (hp : (backTo cp (starEach [] X.env)).any (·.1) = false := by rfl) :
    JE X G E .d μ (.Call (.Attribute (.Name x p2) "append" ap) [a0] [] cp) (mWApp i m) := by
  obtain ⟨t1, p1, s1⟩ := ha.ex
  refine ⟨_, pe_bm F.plainAttrs_list F.slot_list_append F.type_list_append mt_append (pe_var hN hx hd hcd) (pa_cons p1 pa_nil hst) hb hf hl hst hp, fun F S H σ ρ h Q k => ?_⟩
  unfold mWApp at k
  cases q0 : ρ.getD i .non with
  | lst ds0 =>
    rw [q0] at k
    dsimp only at k
    obtain ⟨fp, sl, _, _⟩ := h.lend hm
    obtain ⟨p, hp', ow, _⟩ := slot_ow sl hs (by rw [q0]; rfl)
    rw [q0] at ow
    refine ⟨_, hp', ?_, s1 F S H σ ρ h _ ?_⟩
    · cases ow with
      | lst a1 a2 => exact .inl ⟨rfl, _, .inl (.inl a1)⟩
    · cases q : m ρ with
      | ok d ρ1 =>
        rw [q] at k
        intro v S1 H1 e1 h1
        cases d with
        | lst es =>
          dsimp only at k
          cases q1 : ρ1.getD i .non with
          | lst ds =>
            rw [q1] at k
            dsimp only at k
            split at k
            · rename_i hlt
              obtain ⟨p', vs, b1, b2, b3, b4, _⟩ := h1.appW hm hs q1
              rw [hp'] at b1
              cases b1
              exact ⟨p, vs, v, rfl, rfl, b2, lt_line (by rw [b3]; exact hlt), k .non S1 _ e1 (b4.push .non)⟩
            · exact k.elim
          | _ => rw [q1] at k; exact k.elim
        | _ => exact k.elim
      | exc e ρ1 => rw [q] at k; exact k
      | bad => rw [q] at k; exact k.elim
  | _ => rw [q0] at k; exact k.elim
noncomputable def mNilW (m : ME) : ME := fun ρ => match m ρ with
  | .ok (.lst []) ρ1 => .ok (.lst []) ρ1
  | .ok _ _ => .bad
  | .exc e ρ1 => .exc e ρ1
  | .bad => .bad
theorem EnvOk.re0 {m m' : Mode} {s0 : Option V} {d d' : D} (h : EnvOk K G F S H (m :: μ) (s0 :: σ) (d :: ρ)) (go : ∀ fp, SlotOk K G F.pin S H m (some s0) d fp → SlotOk K G F.pin S H m' (some s0) d' fp) : EnvOk K G F S H (m' :: μ) (s0 :: σ) (d' :: ρ) := by
  obtain ⟨sh, fk, ls, lr, fp, f, f4, sl⟩ := h
  refine ⟨sh, fk, by simpa using ls, by simpa using lr, fp, f, fun i hi => f4 i (by simpa using hi), fun i n e => ?_⟩
  cases i with
  | zero =>
    cases e
    have z := sl 0 m rfl
    simp only [List.getElem?_cons_zero, List.getD_cons_zero] at z ⊢
    exact go _ z
  | succ i =>
    have z := sl (i + 1) n (by simpa using e)
    simpa using z
theorem je_nilW {s : Sh} {e : Expr} {m : ME} (h : JE X G E .o μ e m) : JE X G E (.w (.l (.all s))) μ e (mNilW m) := by
  obtain ⟨t1, p1, s1⟩ := h.ex
  refine ⟨t1, p1, fun F S H σ ρ h Q k => s1 F S H σ ρ h _ ?_⟩
  unfold mNilW at k
  cases q : m ρ with
  | ok d ρ1 =>
    rw [q] at k
    intro v S1 H1 e1 h1
    cases d with
    | lst ds =>
      cases ds with
      | nil =>
        refine k v S1 H1 e1 (h1.re0 fun fp z => ?_)
        obtain ⟨p, z1, z2, z3⟩ := z
        refine ⟨p, z1, ?_⟩
        cases z2 with
        | lst a1 a2 =>
          cases a2
          exact .lst a1 .all0
      | cons _ _ => exact k.elim
    | _ => exact k.elim
  | exc e ρ1 => rw [q] at k; exact k
  | bad => rw [q] at k; exact k
theorem EnvOk.giveW {i : Nat} {mo : Mode} {sv : V} (h : EnvOk K G F S H μ σ ρ) (e : μ[i]? = some mo) (hv : σ[i]? = some (some sv)) : EnvOk K G F S H (mo :: μ.set i .x) (some sv :: σ) (ρ.getD i .non :: ρ) := by
  obtain ⟨fp, ⟨f1, f2, f3⟩, f4, sl, th⟩ := h.fps
  have hi : i < μ.length := (List.getElem?_eq_some_iff.mp e).1
  refine ⟨h.sh, h.fk, by simp [h.ls], by simp [h.lr], fun j => match j with | 0 => fp i | j + 1 => if j = i then [] else fp j, ⟨?_, ?_, ?_⟩, ?_, ?_⟩
  · intro j a ha
    cases j with
    | zero => exact f1 i a ha
    | succ j =>
      have ha : a ∈ (if j = i then [] else fp j) := ha
      split at ha
      · cases ha
      · exact f1 j a ha
  · intro j k a ha hb
    cases j with
    | zero =>
      cases k with
      | zero => rfl
      | succ k =>
        have hb : a ∈ (if k = i then [] else fp k) := hb
        split at hb
        · cases hb
        · rename_i z; exact absurd (f2 i k a ha hb).symm z
    | succ j =>
      have ha : a ∈ (if j = i then [] else fp j) := ha
      split at ha
      · cases ha
      · rename_i z
        cases k with
        | zero => exact absurd (f2 j i a ha hb) z
        | succ k =>
          have hb : a ∈ (if k = i then [] else fp k) := hb
          split at hb
          · cases hb
          · exact congrArg (· + 1) (f2 j k a ha hb)
  · intro j
    cases j with
    | zero => exact f3 i
    | succ j =>
      show (if j = i then [] else fp j).Nodup
      split
      · exact List.nodup_nil
      · exact f3 j
  · intro j hj
    cases j with
    | zero => simp at hj
    | succ j =>
      show (if j = i then [] else fp j) = []
      split
      · rfl
      · exact f4 j (by simpa using hj)
  · intro j m2 e2
    cases j with
    | zero =>
      cases e2
      have z := sl i mo e
      rw [hv] at z
      simpa using z
    | succ j =>
      simp only [List.getElem?_cons_succ] at e2
      show SlotOk K G F.pin S H m2 _ _ (if j = i then [] else fp j)
      by_cases z : j = i
      · subst z
        rw [List.getElem?_set_self hi] at e2
        cases e2
        rw [if_pos rfl]
        rfl
      · rw [List.getElem?_set_ne (Ne.symm z)] at e2
        rw [if_neg z]
        have w := sl j m2 e2
        simpa using w
noncomputable def mRetW (i : Nat) : MS := fun ρ => .ret (ρ.getD i .non) ρ
theorem js_retW {x : Str} {i : Nat} {sh : Sh} {p pos : Pos} (hr : C.rm = .w sh := by rfl) (e : μ[i]? = some (.w sh) := by rfl) (w : ModesLe C.μx (μ.set i .x) = true := by rfl) (hN : X.N[i]? = some x := by rfl) (hx : Vis X.env.scope x := by first | exact Or.inl rfl | exact Or.inr (Or.inl rfl) | exact Or.inr (Or.inr rfl)) (hd : (x == ("__debug__" : Str)) = false := by decide) (hcd : (x == ("__classdict__" : Str)) = false := by decide) :
    JS X G C μ μ' (.Return (some (.Name x p)) pos) (mRetW i) := by
  refine ⟨_, ps_ret (pe_var hN hx hd hcd), fun F S H σ ρ h D k => ?_⟩
  obtain ⟨fp, sl, _, _⟩ := h.lend e
  obtain ⟨p, q1, _⟩ := sl
  refine ⟨_, q1, k _ (μ.set i .x) σ S H w (Evl.Ex.refl S) ?_⟩
  rw [hr]
  exact h.giveW e q1
noncomputable def mSplit (c : MT) (a b r1 r2 : MS) : MS := fun ρ => match c ρ with
  | .ok true ρ' => mSeq a r1 ρ'
  | .ok false ρ' => mSeq b r2 ρ'
  | .exc e ρ' => .exc e ρ'
  | .bad => .bad
theorem jss_split {c : Expr} {a b rest : List Stmt} {mc : MT} {ma mb r1 r2 : MS} {pos : Pos} (hc : JT X G C.E μ c mc) (ha : JSs X G C μ μ1 a ma) (hb : JSs X G C μ μ2 b mb) (h1 : JSs X G C μ1 μ' rest r1) (h2 : JSs X G C μ2 μ' rest r2) (w : ModesLe C.μx μ = true := by rfl) :
    JSs X G C μ μ' (.If c a b pos :: rest) (mSplit mc ma mb r1 r2) := by
  obtain ⟨t, p1, s1⟩ := hc.ex
  obtain ⟨ta, p2, s2⟩ := ha.ex
  obtain ⟨tb, p3, s3⟩ := hb.ex
  obtain ⟨u1, p4, s4⟩ := h1.ex
  obtain ⟨u2, p5, s5⟩ := h2.ex
  have pr : PSs X rest (fun D σ H => u1 D σ H ∨ u2 D σ H) := ⟨fun pins s σ H D I h => h.elim (fun h => p4.run pins s σ H D I h) fun h => p5.run pins s σ H D I h⟩
  refine ⟨_, pss_cons (ps_if p1 p2 p3) pr, fun F S H σ ρ h D k => ?_⟩
  refine s1 F S H σ ρ h _ ?_
  unfold mSplit at k
  cases q : mc ρ with
  | ok x ρ1 =>
    rw [q] at k
    intro S1 H1 e1 h1
    cases x with
    | true =>
      rw [if_pos rfl]
      refine s2 F S1 H1 σ ρ1 h1 _ ?_
      have k1 : OutOk X.K G C μ' F S1 D (mSeq ma r1 ρ1) := OutOk.mono e1 k
      unfold mSeq at k1
      cases q2 : ma ρ1 with
      | nx ρ2 =>
        rw [q2] at k1
        exact fun σ' S' H' e h' => .inl (s4 F S' H' σ' ρ2 h' D (OutOk.mono e k1))
      | _ => rw [q2] at k1; exact k1
    | false =>
      rw [if_neg Bool.false_ne_true]
      refine s3 F S1 H1 σ ρ1 h1 _ ?_
      have k1 : OutOk X.K G C μ' F S1 D (mSeq mb r2 ρ1) := OutOk.mono e1 k
      unfold mSeq at k1
      cases q2 : mb ρ1 with
      | nx ρ2 =>
        rw [q2] at k1
        exact fun σ' S' H' e h' => .inr (s5 F S' H' σ' ρ2 h' D (OutOk.mono e k1))
      | _ => rw [q2] at k1; exact k1
  | exc e1 ρ1 => rw [q] at k; exact xout w k
  | bad => rw [q] at k; exact k
noncomputable def rowIx (i k : Nat) (ρ : List D) : Option Nat := match ρ.getD k .non, ρ.getD i .non with
  | .int z, .lst ds => ixN ds.length z
  | _, _ => none
noncomputable def plV (i k : Nat) : Pl := ⟨fun ρ _ => (rowIx i k ρ).bind fun j => kidAt shLL Str.empty j (ρ.getD i .non), fun ρ ρ2 => ρ2.set i (ρ.getD i .non), fun ρ ρ2 d => match rowIx i k ρ with
  | some j => ρ2.set i (putKid (ρ.getD i .non) j d)
  | none => ρ2⟩
theorem pl_ixV {i k : Nat} {mo : Mode} {x y : Str} {p2 p3 pos : Pos} (hm : μ[i]? = some mo := by rfl) (hk : μ[k]? = some .d := by rfl) (hs : shS mo shLL = true := by rfl)
    (hN : X.N[i]? = some x := by rfl) (hx : Vis X.env.scope x := by first | exact Or.inl rfl | exact Or.inr (Or.inl rfl) | exact Or.inr (Or.inr rfl)) (hd : (x == ("__debug__" : Str)) = false := by decide) (hcd : (x == ("__classdict__" : Str)) = false := by decide)
    (hN2 : X.N[k]? = some y := by rfl) (hx2 : Vis X.env.scope y := by first | exact Or.inl rfl | exact Or.inr (Or.inl rfl) | exact Or.inr (Or.inr rfl)) (hd2 : (y == ("__debug__" : Str)) = false := by decide) (hcd2 : (y == ("__classdict__" : Str)) = false := by decide) :
    PlE X G μ (μ.set i .x) shL (.Subscript (.Name x p2) (.Name y p3) pos) (plV i k) := by
  refine ⟨_, pe_ix ix_list (pe_var hN hx hd hcd) (pe_var hN2 hx2 hd2 hcd2) (by intro _ _; rfl), fun F S H σ ρ d1 h e => ?_⟩
  have e' : ((rowIx i k ρ).bind fun j => kidAt shLL Str.empty j (ρ.getD i .non)) = some d1 := e
  cases q : rowIx i k ρ with
  | none => rw [q] at e'; cases e'
  | some j =>
    rw [q] at e'
    have e'' : kidAt shLL Str.empty j (ρ.getD i .non) = some d1 := e'
    obtain ⟨e1, e2⟩ := kidAt_kids e''
    obtain ⟨p, vs, qq, fp, hp, ob, hq, ow, hl, _, re⟩ := h.kid hm hs e2 rfl (s1 := shL) (by cases j <;> rfl) rfl e1
    unfold rowIx at q
    split at q
    · rename_i z ds qk qd
      obtain ⟨fq, sk⟩ := h.sl
      have sk := sk.2.2 k .d hk
      obtain ⟨_, vk, hvk, dk⟩ := sk
      rw [qk] at dk
      cases dk
      have lv : vs.length = ds.length := by
        obtain ⟨fp', sl, _, _⟩ := h.lend hm
        obtain ⟨p', hp', ow', _⟩ := slot_ow sl hs e2
        rw [hp] at hp'
        cases hp'
        rw [qd] at ow'
        cases ow' with
        | lst b1 b2 =>
          have : H p = some (.lst vs) := ob
          rw [this] at b1
          cases b1
          exact b2.length
      refine ⟨qq, _, fun Q kk => ⟨_, hp, _, hvk, p, vs, z, _, rfl, rfl, .inl (.inl ob), ?_, kk⟩, ow, hl, fun S2 H2 ρ2 ex h2 => ?_⟩
      · unfold atI
        rw [lv, q]
        exact hq
      · obtain ⟨r1, r2, r3⟩ := re S2 H2 ρ2 ex h2
        refine ⟨r2, fun d2 e3 => ?_⟩
        have : d2 = d1 := Option.some.inj (e3.symm.trans e)
        subst this
        refine ⟨r1, fun o d3 w => ?_⟩
        have hri : rowIx i k ρ = some j := by unfold rowIx; rw [qk, qd]; exact q
        show EnvOk X.K G F S2 (upd H2 qq o) μ σ (match rowIx i k ρ with | some j => ρ2.set i (putKid (ρ.getD i .non) j d3) | none => ρ2)
        rw [hri]
        exact r3 o d3 w
    · cases q
theorem EnvOk.hold {m : Mode} {s0 : V} {d0 : D} (h : EnvOk K G F S H (m :: μ) (some s0 :: σ) (d0 :: ρ)) : ∃ F', EnvOk K G F' S H μ σ ρ ∧ ∀ {S2 H2 : Hp} {μ2 : List Mode} {σ2 : L2.St} {ρ2 : List D}, EnvOk K G F' S2 H2 μ2 σ2 ρ2 → Ex S S2 → EnvOk K G F S2 H2 (m :: μ2) (some s0 :: σ2) (d0 :: ρ2) := by
  obtain ⟨fp, sl, fo, hl⟩ := h.lend (i := 0) (m := m) rfl
  simp only [List.getElem?_cons_zero, List.getD_cons_zero] at sl
  have hl' : EnvOk K G (F.lend H fp) S H (.x :: μ) (some s0 :: σ) (d0 :: ρ) := hl
  refine ⟨F.lend H fp, hl'.tail, fun {S2 H2 μ2 σ2 ρ2} h2 e2 => ?_⟩
  have stay : ∀ a ∈ fp, H2 a = H a ∧ S2 a = none := fun a ha => by
    obtain ⟨o, qo, nt0⟩ := fo.th a ha
    have := h2.fk a o (by rw [Fo.lend_in ha, qo, ntOnly_of nt0])
    exact ⟨this.1.trans qo.symm, this.2⟩
  exact h2.joinS ⟨fo.nd, fun a ha => ⟨(stay a ha).2, (fo.fr a ha).2⟩, fo.th⟩ (sl.mono e2 fun a ha => (stay a ha).1)
theorem ixN_lt {n j : Nat} {i : Int} (h : ixN n i = some j) : j < n := by
  unfold ixN at h
  split at h
  · split at h
    · cases h; omega
    · cases h
  · split at h
    · cases h; omega
    · cases h
noncomputable def mWSet (i : Nat) (b mv : ME) : MS := fun ρ => match mv ρ with
  | .ok (.lst es) ρ1 => (match b ρ1 with
    | .ok (.int kk) ρ2 => (match ρ2.getD i .non with
      | .lst ds => (match ixN ds.length kk with
        | some j => .nx (ρ2.set i (.lst (ds.set j (.lst es))))
        | none => .bad)
      | _ => .bad)
    | .ok _ _ => .bad
    | .exc e ρ2 => .exc e ρ2
    | .bad => .bad)
  | .ok _ _ => .bad
  | .exc e ρ1 => .exc e ρ1
  | .bad => .bad
theorem js_wSet {i : Nat} {mo : Mode} {x : Str} {k v : Expr} {b mv : ME} {p2 pos pos' : Pos} (hv : JE X G C.E .o μ v mv) (hk : JE X G C.E .d μ k b) (hm : μ[i]? = some mo := by rfl) (hs : shS mo shLL = true := by rfl) (w : ModesLe C.μx μ = true := by rfl)
    (hN : X.N[i]? = some x := by rfl) (hx : Vis X.env.scope x := by first | exact Or.inl rfl | exact Or.inr (Or.inl rfl) | exact Or.inr (Or.inr rfl)) (hd : (x == ("__debug__" : Str)) = false := by decide) (hcd : (x == ("__classdict__" : Str)) = false := by decide)
    (hav : ∀ u, assign (.Subscript (.Name x p2) k pos') X.env u = (do
      let ov ← holding [u] (eval (.Name x p2) X.env)
      let iv ← holding [u, ov] (eval k X.env)
      standAt pos'
      holding [u, ov, iv] (setItem ov iv u)
      release [u, ov, iv] []) := by intro _; rfl)
    (hsw : swapsWithSole [.Subscript (.Name x p2) k pos'] v pos.line X.env = pure false := by rfl) (hw : swappedStores [.Subscript (.Name x p2) k pos'] v X.env = pure none := by rfl)
    (h1 : (assignEach [.Subscript (.Name x p2) k pos'] X.env).map (·.2) = [assign (.Subscript (.Name x p2) k pos') X.env] := by rfl) : JS X G C μ μ (.Assign [.Subscript (.Name x p2) k pos'] v pos) (mWSet i b mv) := by
  obtain ⟨t2, p2, s2⟩ := hk.ex
  obtain ⟨t3, p3, s3⟩ := hv.ex
  refine ⟨_, ps_asg p3 (pg_sub (pe_var hN hx hd hcd) p2 set_list hav) hsw hw h1, fun F S H σ ρ h Dn kn => s3 F S H σ ρ h _ ?_⟩
  unfold mWSet at kn
  cases q0 : mv ρ with
  | ok d ρ1 =>
    rw [q0] at kn
    intro vv S1 H1 e1 h1
    cases d with
    | lst es =>
      dsimp only at kn
      obtain ⟨_, sl, _, _⟩ := h1.tail.lend hm
      obtain ⟨p, hp⟩ := owned_ref sl hs
      obtain ⟨F', hl, st⟩ := h1.hold
      refine ⟨_, hp, s2 F' S1 H1 σ ρ1 hl _ ?_⟩
      cases q2 : b ρ1 with
      | ok kd ρ2 =>
        rw [q2] at kn
        intro w2 S2 H2 e2 h2
        cases kd with
        | int kk =>
          dsimp only at kn
          have hwi := h2.head
          cases hwi
          cases q4 : ρ2.getD i .non with
          | lst ds =>
            rw [q4] at kn
            dsimp only at kn
            cases q5 : ixN ds.length kk with
            | none => rw [q5] at kn; exact kn.elim
            | some j =>
              rw [q5] at kn
              obtain ⟨p', vs, b1, b2, b3, _, b5⟩ := (st h2.tail e2).appW hm hs q4
              rw [hp] at b1
              cases b1
              exact ⟨p, vs, kk, j, rfl, rfl, b2, by rw [b3]; exact q5, kn σ S2 _ (e1.trans e2) (b5 j (by rw [b3]; exact ixN_lt q5))⟩
          | _ => rw [q4] at kn; exact kn.elim
        | _ => exact kn.elim
      | exc er ρ2 =>
        rw [q2] at kn
        dsimp only at kn
        exact fun c dct S2 H2 e2 h2 zz => kn μ σ c dct S2 H2 w (e1.trans e2) (st h2 e2).tail zz
      | bad => rw [q2] at kn; exact kn
    | _ => exact kn.elim
  | exc e ρ1 => rw [q0] at kn; exact xout w kn
  | bad => rw [q0] at kn; exact kn
variable {P : Program} {w : World} {mg : Str → Option Value} {base : Heap}
theorem EnvOk.addX {s t : Option V} {d e : D} (h : EnvOk K G F S H [r] [s] [d]) : EnvOk K G F S H [r, .x] [s, t] [d, e] := by
  obtain ⟨sh, fk, ls, lr, fp, f, f4, sl⟩ := h
  refine ⟨sh, fk, rfl, rfl, fp, f, fun i hi => f4 i (by simp at hi ⊢; omega), fun i m q => ?_⟩
  match i, q with
  | 0, q => exact sl 0 m q
  | 1, q => cases q; exact f4 1 (by simp)
theorem fn_okC {x qual : Str} {st : Stmt} {f : Addr} {fd : FuncData} {N ps : List Str} {lv n k : Nat} {rm : Mode} {sh : Sh} {b : MS} {μe : List Mode} (F : Fun K x qual st f fd) (sc : FnScope N ps (defScope st)) (hn : ps.length = n + 1) (hk : N.length = n + 1 + k)
    (hb : ∀ (cdv : Value) (A : Around) (outer : List Env) (s : Shared) (H : Hp) (E : XK), Room lv (A.deeper (envOfC qual (defScope st) s.heap.objs.size f cdv)) →
      JSs (cxOf (L2.CX P w) P w K mg base N qual (defScope st) f cdv A outer s H E) G (scOfB E rm .x n k) (.s 0 sh :: (List.replicate n .d ++ List.replicate k .x)) μe (defBody st) b) :
    FnOk P w K mg base (L2.CX P w) (lv + 1) f fd ps (spB K G n rm sh .x .x (mDefB rm k b)) := by
  refine F.okX sc (fun vs H Q E h => by rw [spB_len h, hn]) fun cdv A outer s H vs Q E hr h => ?_
  obtain ⟨t, p1, s1⟩ := (hb cdv A outer s H E hr).ex
  obtain ⟨F0, S, p, us, d0, ds, fp, rfl, l, q, sh0, fk, f0, ow, hp, z⟩ := h
  have hv : us.length = n := by rw [q.length, l]
  refine ⟨t, p1, ?_⟩
  have e0 : L2.start N (.ref p :: us) = some (.ref p) :: (us.map some ++ List.replicate k none) := by
    unfold L2.start
    rw [List.length_cons, show N.length - (us.length + 1) = k by omega]
    rfl
  rw [e0]
  have en := EnvOk.argsB (k := k) sh0 fk f0 ow hp q
  rw [l] at en
  refine s1 F0 S H _ _ en _ ?_
  unfold mDefB at z
  rw [List.cons_append] at z
  cases q2 : b (d0 :: (ds ++ List.replicate k .non)) with
  | nx ρ' =>
    rw [q2] at z
    cases rm with
    | d => exact fun σ' S' H' e' h' => z _ S' H' e' (h'.push .non).alone.addX
    | _ => exact z.elim
  | ret d ρ' =>
    rw [q2] at z
    exact fun v μ1 σ' S' H' le e' h' => z v S' H' e' h'.alone.addX
  | exc e ρ' =>
    rw [q2] at z
    exact fun μ1 σ' c dct S' H' le e' h' z' => z c dct S' H' e' ⟨h'.sh, h'.fk, rfl, rfl, fun _ => [], ⟨fun _ _ q => (by cases q), fun _ _ _ q => (by cases q), fun _ => List.nodup_nil⟩, fun _ _ => rfl, fun i m e2 => by
      cases i with
      | zero => cases e2; rfl
      | succ i => simp at e2⟩ z'
  | brk ρ' => rw [q2] at z; exact z.elim
  | cnt ρ' => rw [q2] at z; exact z.elim
  | bad => rw [q2] at z; exact z.elim
structure DefC (P : Program) (w : World) (K : PySem.W.Frag) (mg : Str → Option Value) (base : Heap) (G : Cl) (x : Str) (n : Nat) (rm : Mode) (sh : Sh) (f : MPB) (k : Nat) (dd : List D) : Prop where
  ex : ∃ (a : Addr) (fd : FuncData) (ps : List Str) (ds : List Value) (dvs : List V), FnOk P w K mg base (L2.CX P w) k a fd ps (spB K G n rm sh .x .x f) ∧ mg x = some (.ref a) ∧ PySem.W.keepIn K (.ref a) = true ∧ Binds K fd ps ds ∧ Vals dvs ds ∧ ∀ S, DatL K G S dvs dd
noncomputable def mCallC (sh : Sh) (f : MPB) (dd : List D) (m0 : ME) (a : MA) : ME := fun ρ => (m0 ρ).bind fun d0 ρ1 => (a ρ1).bind fun ds ρ2 => if kindOk sh d0 = true then (match f (d0 :: (ds ++ dd)) with
  | .ok d _ => .ok d ρ2
  | .exc e _ => .exc e ρ2
  | .bad => .bad) else .bad
theorem EnvOk.useUp {sh : Sh} {us : List V} {ds : List D} {s0 : V} {d0 : D} {Q : VK} {E' : XK} {f : MPB} (h : EnvOk K G F S H (.w sh :: μ) (some s0 :: σ) (d0 :: ρ)) (hk : kindOk sh d0 = true) (q : DatL K G S us ds) (hr : pinless r = true)
    (k : EOk K G (fun _ => E') r μ F S σ Q (match f (d0 :: ds) with
      | .ok d _ => .ok d ρ
      | .exc e _ => .exc e ρ
      | .bad => .bad)) : spB K G ds.length r sh .x .x f (s0 :: us) H Q E' := by
  obtain ⟨fp, sl, fo, hl⟩ := h.lend (i := 0) (m := .w sh) rfl
  simp only [List.getElem?_cons_zero, List.getD_cons_zero] at sl
  obtain ⟨p, hp, ow⟩ := sl
  cases hp
  refine ⟨⟨restB H S fp, fun _ => p, restB_nt⟩, S, p, us, d0, ds, fp, rfl, rfl, q, h.sh, fun a o z => ⟨(restB_some z).1, (restB_some z).2.1⟩, ⟨fo.nd, fun a ha => ⟨(fo.fr a ha).1, if_pos ha⟩, fo.th⟩, ow, rfl, ?_⟩
  cases e : f (d0 :: ds) with
  | bad => rw [e] at k; exact k
  | ok d d1 =>
    rw [e] at k
    intro v S' H' ex z
    refine k v S' H' ex ?_
    obtain ⟨fq, ⟨f1, f2, f3⟩, f4, s2, th⟩ := z.fps
    have sB := s2 0 r rfl
    simp only [List.getElem?_cons_zero, List.getD_cons_zero] at sB
    obtain ⟨_, g⟩ := h.backB (i := 0) (m := .w sh) rfl hl fo ex z
    obtain ⟨g1, g2⟩ := g (fq 0) (f1 0) (th 0) (f3 0)
    have g3 : EnvOk K G (F.lend H' (fq 0)) S' H' (.x :: μ) (some (.ref p) :: σ) (d0 :: ρ) := g2
    exact g3.tail.joinS g1 (sB.repin hr)
  | exc er d1 =>
    rw [e] at k
    intro c dct S' H' ex z er'
    obtain ⟨b, _⟩ := h.backB (i := 0) (m := .w sh) rfl hl fo ex z
    have b2 : EnvOk K G F S' H' (.x :: μ) (some (.ref p) :: σ) (d0 :: ρ) := b
    exact k c dct S' H' ex b2.tail er'
theorem je_callC {x : Str} {n k m : Nat} {sh : Sh} {f : MPB} {dd : List D} {e0 : Expr} {es : List Expr} {m0 : ME} {a : MA} {p pos : Pos} (B : DefC X.prog X.w X.K X.mg X.base G x n r sh f k dd) (hr : Room k X.A) (tk : Takes X (fun c d σ H => E σ c d H)) (h0 : JE X G E (.w sh) μ e0 m0) (ha : JA X G E μ es a) (hl : ALen a m)
    (hn : m + dd.length = n := by rfl) (hpr : pinless r = true := by rfl)
    (hg : Gl X x := by rfl) (hdb : (x == ("__debug__" : Str)) = false := by decide) (he : starEach (e0 :: es) X.env = (false, eval e0 X.env) :: starEach es X.env := by rfl) (hpl : (backTo pos (starEach es X.env)).any (·.1) = false := by rfl) :
    JE X G E r μ (.Call (.Name x p) (e0 :: es) [] pos) (mCallC sh f dd m0 a) := by
  obtain ⟨t0, p0, s0⟩ := h0.ex
  obtain ⟨t1, p1, s1⟩ := ha.ex
  obtain ⟨A, fd, ps, ds, dvs, h1, h2, h3, h4, h5, h6⟩ := B.ex
  refine ⟨_, pe_callSD h1 hr hg h2 h3 h4 h5 (fun σ => passAt tk σ) (pa_cons p0 p1 he) hdb he hpl, fun F S H σ ρ h Q k => s0 F S H σ ρ h _ ?_⟩
  unfold mCallC at k
  cases q0 : m0 ρ with
  | ok d0 ρ1 =>
    rw [q0, bind_ok] at k
    intro v S1 H1 e1 h1
    obtain ⟨F', hl', st⟩ := h1.hold
    refine s1 F' S1 H1 σ ρ1 hl' _ ?_
    have k1 := EOk.mono e1 k
    clear k
    cases q : a ρ1 with
    | ok ds ρ2 =>
      rw [q, bind_ok] at k1
      intro us S2 H2 e2 hh q1
      have k2 := EOk.mono e2 k1
      have hk : kindOk sh d0 = true := by
        by_cases z : kindOk sh d0 = true
        · exact z
        · rw [if_neg z] at k2; exact k2.elim
      rw [if_pos hk] at k2
      have := (st hh e2).useUp hk (q1.append (h6 S2)) hpr (eok_const k2)
      rw [List.length_append, hl ρ1 ds ρ2 q, hn] at this
      exact this
    | exc e ρ2 =>
      rw [q] at k1
      exact fun c dct S2 H2 e2 h2 zz => k1 c dct S2 H2 e2 (st h2 e2).tail zz
    | bad => rw [q] at k1; exact k1
  | exc e ρ1 => rw [q0] at k; exact k
  | bad => rw [q0] at k; exact k
end
end MR
namespace MR
open PySem L2
noncomputable def Out.andThen (o : Out) (b : MS) : Out := match o with
  | .nx ρ => b ρ
  | o => o
section
variable {a b c : MS} {ρ : List D} {d : D} {e : Err}
@[simp] theorem then_nx : (Out.nx ρ).andThen b = b ρ := rfl
@[simp] theorem then_ret : (Out.ret d ρ).andThen b = .ret d ρ := rfl
@[simp] theorem then_brk : (Out.brk ρ).andThen b = .brk ρ := rfl
@[simp] theorem then_cnt : (Out.cnt ρ).andThen b = .cnt ρ := rfl
@[simp] theorem then_exc : (Out.exc e ρ).andThen b = .exc e ρ := rfl
@[simp] theorem then_bad : Out.bad.andThen b = .bad := rfl
@[simp] theorem mSeq_eq : mSeq a b ρ = (a ρ).andThen b := by unfold mSeq; cases a ρ <;> rfl
@[simp] theorem mNext_eq : mNext ρ = .nx ρ := rfl
noncomputable def Out.keep' (μ : List Mode) (o : Out) : Out := match o with
  | .nx ρ => .nx (keep μ ρ)
  | o => o
@[simp] theorem keep_nx {μ} : (Out.nx ρ).keep' μ = .nx (keep μ ρ) := rfl
@[simp] theorem keep_ret {μ} : (Out.ret d ρ).keep' μ = .ret d ρ := rfl
@[simp] theorem keep_brk {μ} : (Out.brk ρ).keep' μ = .brk ρ := rfl
@[simp] theorem keep_cnt {μ} : (Out.cnt ρ).keep' μ = .cnt ρ := rfl
@[simp] theorem keep_exc {μ} : (Out.exc e ρ).keep' μ = .exc e ρ := rfl
@[simp] theorem keep_bad {μ} : Out.bad.keep' μ = .bad := rfl
@[simp] theorem mKeep_eq {μ} : mKeep μ a ρ = (a ρ).keep' μ := by unfold mKeep; cases a ρ <;> rfl
@[simp] theorem mKeep0_eq {μ} : mKeep0 μ a ρ = a (keep μ ρ) := rfl
@[simp] theorem keep_x {ms : List Mode} {ds : List D} : keep (.x :: ms) (d :: ds) = .non :: keep ms ds := rfl
@[simp] theorem keep_d {ms : List Mode} {ds : List D} : keep (.d :: ms) (d :: ds) = d :: keep ms ds := rfl
@[simp] theorem keep_o {ms : List Mode} {ds : List D} : keep (.o :: ms) (d :: ds) = d :: keep ms ds := rfl
@[simp] theorem keep_w {sh : Sh} {ms : List Mode} {ds : List D} : keep (.w sh :: ms) (d :: ds) = d :: keep ms ds := rfl
@[simp] theorem keep_s {k : Nat} {sh : Sh} {ms : List Mode} {ds : List D} : keep (.s k sh :: ms) (d :: ds) = d :: keep ms ds := rfl
@[simp] theorem keep_e {a : EI} {ms : List Mode} {ds : List D} : keep (.e a :: ms) (d :: ds) = d :: keep ms ds := rfl
@[simp] theorem keep_nil {ds : List D} : keep [] ds = [] := by cases ds <;> rfl
end
section
variable {α β : Type} {a b : ME} {ma : MA} {t u : MT} {s1 s2 : MS} {ρ : List D} {d x y : D} {ds : List D} {e : Err} {i j : Nat}
noncomputable def RR.asg (o : RR D) (i : Nat) : Out := match o with
  | .ok d ρ' => .nx (ρ'.set i d)
  | .exc e ρ' => .exc e ρ'
  | .bad => .bad
@[simp] theorem asg_ok : (RR.ok d ρ).asg i = .nx (ρ.set i d) := rfl
@[simp] theorem asg_exc : (RR.exc e ρ : RR D).asg i = .exc e ρ := rfl
@[simp] theorem asg_bad : (RR.bad : RR D).asg i = .bad := rfl
@[simp] theorem mAsg_eq : mAsg i a ρ = (a ρ).asg i := rfl
noncomputable def RR.ret (o : RR D) : Out := match o with
  | .ok d ρ' => .ret d ρ'
  | .exc e ρ' => .exc e ρ'
  | .bad => .bad
@[simp] theorem ret_ok : (RR.ok d ρ).ret = .ret d ρ := rfl
@[simp] theorem ret_exc : (RR.exc e ρ : RR D).ret = .exc e ρ := rfl
@[simp] theorem ret_bad : (RR.bad : RR D).ret = .bad := rfl
@[simp] theorem mRet_eq : mRet a ρ = (a ρ).ret := rfl
noncomputable def RR.drop (o : RR D) : Out := match o with
  | .ok _ ρ' => .nx ρ'
  | .exc e ρ' => .exc e ρ'
  | .bad => .bad
@[simp] theorem drop_ok : (RR.ok d ρ).drop = .nx ρ := rfl
@[simp] theorem drop_exc : (RR.exc e ρ : RR D).drop = .exc e ρ := rfl
@[simp] theorem drop_bad : (RR.bad : RR D).drop = .bad := rfl
@[simp] theorem mDrop_eq : mDrop a ρ = (a ρ).drop := rfl
noncomputable def RR.branch (o : RR Bool) (a b : MS) : Out := match o with
  | .ok true ρ' => a ρ'
  | .ok false ρ' => b ρ'
  | .exc e ρ' => .exc e ρ'
  | .bad => .bad
@[simp] theorem branch_t : (RR.ok true ρ).branch s1 s2 = s1 ρ := rfl
@[simp] theorem branch_f : (RR.ok false ρ).branch s1 s2 = s2 ρ := rfl
@[simp] theorem branch_exc : (RR.exc e ρ : RR Bool).branch s1 s2 = .exc e ρ := rfl
@[simp] theorem branch_bad : (RR.bad : RR Bool).branch s1 s2 = .bad := rfl
@[simp] theorem mIf_eq : mIf t s1 s2 ρ = (t ρ).branch s1 s2 := rfl
@[simp] theorem mVar_eq : mVar i ρ = .ok (ρ.getD i .non) ρ := rfl
@[simp] theorem mC_eq : mC d ρ = .ok d ρ := rfl
noncomputable def RR.op1 (o : RR D) (f : D → D → Option α) (b : ME) : RR α := o.bind fun x ρ1 => (b ρ1).bind fun y ρ2 => RR.of (f x y) ρ2
noncomputable def RR.op2 (o : RR D) (f : D → D → Option α) (x : D) : RR α := o.bind fun y ρ2 => RR.of (f x y) ρ2
@[simp] theorem op1_ok {f : D → D → Option α} : (RR.ok x ρ).op1 f b = (b ρ).op2 f x := rfl
@[simp] theorem op1_exc {f : D → D → Option α} : (RR.exc e ρ : RR D).op1 f b = .exc e ρ := rfl
@[simp] theorem op1_bad {f : D → D → Option α} : (RR.bad : RR D).op1 f b = .bad := rfl
@[simp] theorem op2_ok {f : D → D → Option α} : (RR.ok y ρ).op2 f x = RR.of (f x y) ρ := rfl
@[simp] theorem op2_exc {f : D → D → Option α} : (RR.exc e ρ : RR D).op2 f x = .exc e ρ := rfl
@[simp] theorem op2_bad {f : D → D → Option α} : (RR.bad : RR D).op2 f x = .bad := rfl
@[simp] theorem rr_of_some {a : α} : RR.of (some a) ρ = .ok a ρ := rfl
@[simp] theorem rr_of_none : (RR.of none ρ : RR α) = .bad := rfl
@[simp] theorem mOp_eq {f : D → D → Option D} : mOp f a b ρ = (a ρ).op1 f b := rfl
@[simp] theorem mCmpT_eq {f : D → D → Option Bool} : mCmpT f a b ρ = (a ρ).op1 f b := rfl
noncomputable def RR.bl (o : RR Bool) : RR D := o.bind fun x ρ1 => .ok (.bl x) ρ1
@[simp] theorem bl_ok {p : Bool} : (RR.ok p ρ).bl = .ok (.bl p) ρ := rfl
@[simp] theorem bl_exc : (RR.exc e ρ : RR Bool).bl = .exc e ρ := rfl
@[simp] theorem bl_bad : (RR.bad : RR Bool).bl = .bad := rfl
@[simp] theorem mCmp_eq {f : D → D → Option Bool} : mCmp f a b ρ = ((a ρ).op1 f b).bl := by
  unfold mCmp mOp RR.op1 RR.bl
  cases a ρ with
  | ok x ρ1 =>
    simp only [bind_ok]
    cases b ρ1 with
    | ok y ρ2 => simp only [bind_ok]; cases f x y <;> rfl
    | exc _ _ => rfl
    | bad => rfl
  | exc _ _ => rfl
  | bad => rfl
noncomputable def RR.un (o : RR D) (f : D → Option α) : RR α := o.bind fun x ρ1 => RR.of (f x) ρ1
@[simp] theorem un_ok {f : D → Option α} : (RR.ok x ρ).un f = RR.of (f x) ρ := rfl
@[simp] theorem un_exc {f : D → Option α} : (RR.exc e ρ : RR D).un f = .exc e ρ := rfl
@[simp] theorem un_bad {f : D → Option α} : (RR.bad : RR D).un f = .bad := rfl
@[simp] theorem mUn_eq {f : D → Option D} : mUn f a ρ = (a ρ).un f := rfl
@[simp] theorem mTr_eq : mTr a ρ = (a ρ).un truth := rfl
@[simp] theorem mItL_eq : mItL a ρ = (a ρ).un itemsOf := rfl
noncomputable def fIxO (d y : D) : Option D := match d with
  | .lst ds => fIx (.lst ds) y
  | _ => none
@[simp] theorem fIxO_lst : fIxO (.lst ds) y = fIx (.lst ds) y := rfl
noncomputable def RR.ixO (o : RR D) (i : Nat) : RR D := o.bind fun y ρ1 => RR.of (fIxO (ρ1.getD i .non) y) ρ1
@[simp] theorem ixO_ok : (RR.ok y ρ).ixO i = RR.of (fIxO (ρ.getD i .non) y) ρ := rfl
@[simp] theorem ixO_exc : (RR.exc e ρ : RR D).ixO i = .exc e ρ := rfl
@[simp] theorem ixO_bad : (RR.bad : RR D).ixO i = .bad := rfl
@[simp] theorem mIxO_eq : mIxO i b ρ = (b ρ).ixO i := rfl
noncomputable def RR.andT (o : RR Bool) (u : MT) : RR Bool := o.bind fun x ρ1 => if x = true then u ρ1 else .ok false ρ1
noncomputable def RR.orT (o : RR Bool) (u : MT) : RR Bool := o.bind fun x ρ1 => if x = true then .ok true ρ1 else u ρ1
noncomputable def RR.notT (o : RR Bool) : RR Bool := o.bind fun x ρ1 => .ok (!x) ρ1
@[simp] theorem andT_t : (RR.ok true ρ).andT u = u ρ := rfl
@[simp] theorem andT_f : (RR.ok false ρ).andT u = .ok false ρ := rfl
@[simp] theorem andT_exc : (RR.exc e ρ : RR Bool).andT u = .exc e ρ := rfl
@[simp] theorem andT_bad : (RR.bad : RR Bool).andT u = .bad := rfl
@[simp] theorem orT_t : (RR.ok true ρ).orT u = .ok true ρ := rfl
@[simp] theorem orT_f : (RR.ok false ρ).orT u = u ρ := rfl
@[simp] theorem orT_exc : (RR.exc e ρ : RR Bool).orT u = .exc e ρ := rfl
@[simp] theorem orT_bad : (RR.bad : RR Bool).orT u = .bad := rfl
@[simp] theorem notT_ok {p : Bool} : (RR.ok p ρ).notT = .ok (!p) ρ := rfl
@[simp] theorem notT_exc : (RR.exc e ρ : RR Bool).notT = .exc e ρ := rfl
@[simp] theorem notT_bad : (RR.bad : RR Bool).notT = .bad := rfl
@[simp] theorem mAnd_eq : mAnd t u ρ = (t ρ).andT u := rfl
@[simp] theorem mOr_eq : mOr t u ρ = (t ρ).orT u := rfl
@[simp] theorem mNot_eq : mNot t ρ = (t ρ).notT := rfl
noncomputable def RR.andV (o : RR D) (b : ME) : RR D := o.bind fun x ρ1 => match x with
  | .bl true => b ρ1
  | .bl false => .ok (.bl false) ρ1
  | _ => .bad
@[simp] theorem andV_t : (RR.ok (.bl true) ρ).andV b = b ρ := rfl
@[simp] theorem andV_f : (RR.ok (.bl false) ρ).andV b = .ok (.bl false) ρ := rfl
@[simp] theorem andV_exc : (RR.exc e ρ : RR D).andV b = .exc e ρ := rfl
@[simp] theorem andV_bad : (RR.bad : RR D).andV b = .bad := rfl
@[simp] theorem mAndV_eq : mAndV a b ρ = (a ρ).andV b := rfl
@[simp] theorem mNil_eq : mNil ρ = .ok [] ρ := rfl
noncomputable def RR.cons1 (o : RR D) (b : MA) : RR (List D) := o.bind fun x ρ1 => (b ρ1).bind fun xs ρ2 => .ok (x :: xs) ρ2
noncomputable def RR.cons2 (o : RR (List D)) (x : D) : RR (List D) := o.bind fun xs ρ2 => .ok (x :: xs) ρ2
@[simp] theorem cons1_ok : (RR.ok x ρ).cons1 ma = (ma ρ).cons2 x := rfl
@[simp] theorem cons1_exc : (RR.exc e ρ : RR D).cons1 ma = .exc e ρ := rfl
@[simp] theorem cons1_bad : (RR.bad : RR D).cons1 ma = .bad := rfl
@[simp] theorem cons2_ok : (RR.ok ds ρ).cons2 x = .ok (x :: ds) ρ := rfl
@[simp] theorem cons2_exc : (RR.exc e ρ : RR (List D)).cons2 x = .exc e ρ := rfl
@[simp] theorem cons2_bad : (RR.bad : RR (List D)).cons2 x = .bad := rfl
@[simp] theorem mCons_eq : mCons a ma ρ = (a ρ).cons1 ma := rfl
noncomputable def RR.args (o : RR (List D)) (f : List D → Option α) : RR α := o.bind fun ds ρ1 => RR.of (f ds) ρ1
@[simp] theorem args_ok {f : List D → Option α} : (RR.ok ds ρ).args f = RR.of (f ds) ρ := rfl
@[simp] theorem args_exc {f : List D → Option α} : (RR.exc e ρ : RR (List D)).args f = .exc e ρ := rfl
@[simp] theorem args_bad {f : List D → Option α} : (RR.bad : RR (List D)).args f = .bad := rfl
@[simp] theorem mCB_eq {f : List D → Option D} : mCB f ma ρ = (ma ρ).args f := rfl
@[simp] theorem mRng_eq {f : List D → Option (List D)} : mRng f ma ρ = (ma ρ).args f := rfl
noncomputable def RR.tup (o : RR (List D)) : RR D := o.bind fun ds ρ1 => if ds.length ≤ 1000 then .ok (.tup ds) ρ1 else .bad
noncomputable def RR.lst (o : RR (List D)) : RR D := o.bind fun ds ρ1 => if ds.length ≤ 1000 then .ok (.lst ds) ρ1 else .bad
@[simp] theorem tup_ok : (RR.ok ds ρ).tup = if ds.length ≤ 1000 then .ok (.tup ds) ρ else .bad := rfl
@[simp] theorem tup_exc : (RR.exc e ρ : RR (List D)).tup = .exc e ρ := rfl
@[simp] theorem tup_bad : (RR.bad : RR (List D)).tup = .bad := rfl
@[simp] theorem lst_ok : (RR.ok ds ρ).lst = if ds.length ≤ 1000 then .ok (.lst ds) ρ else .bad := rfl
@[simp] theorem lst_exc : (RR.exc e ρ : RR (List D)).lst = .exc e ρ := rfl
@[simp] theorem lst_bad : (RR.bad : RR (List D)).lst = .bad := rfl
@[simp] theorem mTup_eq : mTup ma ρ = (ma ρ).tup := rfl
@[simp] theorem mLst_eq : mLst ma ρ = (ma ρ).lst := rfl
noncomputable def RP.to (p : RP) (ρ : List D) : RR D := match p with
  | .ok d => .ok d ρ
  | .exc e => .exc e ρ
  | .bad => .bad
@[simp] theorem to_ok : (RP.ok d).to ρ = .ok d ρ := rfl
@[simp] theorem to_exc : (RP.exc e).to ρ = .exc e ρ := rfl
@[simp] theorem to_bad : RP.bad.to ρ = .bad := rfl
noncomputable def RR.call (o : RR (List D)) (f : MP) (dd : List D) : RR D := o.bind fun ds ρ1 => (f (ds ++ dd)).to ρ1
@[simp] theorem call_ok {f : MP} {dd : List D} : (RR.ok ds ρ).call f dd = (f (ds ++ dd)).to ρ := rfl
@[simp] theorem call_exc {f : MP} {dd : List D} : (RR.exc e ρ : RR (List D)).call f dd = .exc e ρ := rfl
@[simp] theorem call_bad {f : MP} {dd : List D} : (RR.bad : RR (List D)).call f dd = .bad := rfl
@[simp] theorem mCall_eq {f : MP} {dd : List D} : mCall f dd ma ρ = (ma ρ).call f dd := rfl
noncomputable def Out.done (o : Out) (rm : Mode) : RP := match o with
  | .ret d _ => .ok d
  | .nx _ => match rm with
    | .d => .ok .non
    | _ => .bad
  | .exc e _ => .exc e
  | _ => .bad
@[simp] theorem done_ret {rm} : (Out.ret d ρ).done rm = .ok d := rfl
@[simp] theorem done_nx : (Out.nx ρ).done .d = .ok .non := rfl
@[simp] theorem done_exc {rm} : (Out.exc e ρ).done rm = .exc e := rfl
@[simp] theorem done_bad {rm} : Out.bad.done rm = .bad := rfl
theorem mDef_eq {rm : Mode} {k : Nat} {s : MS} : mDef rm k s ds = (s (ds ++ List.replicate k .non)).done rm := by
  unfold mDef Out.done
  cases s (ds ++ List.replicate k .non) <;> rfl
@[simp] theorem bName_eq : bName i d ρ = some (ρ.set i d) := rfl
@[simp] theorem bNil_eq : bNil [] ρ = some ρ := rfl
@[simp] theorem bCons_eq {f : MB} {g : List D → List D → Option (List D)} : bCons f g (d :: ds) ρ = (f d ρ).bind (g ds) := by
  show (match f d ρ with | some ρ1 => g ds ρ1 | none => none) = _
  cases f d ρ <;> rfl
@[simp] theorem bTup_eq {n : Nat} {g : List D → List D → Option (List D)} : bTup n g (.tup ds) ρ = if ds.length = n then g ds ρ else none := rfl
noncomputable def RR.asgT (o : RR D) (g : MB) : Out := match o with
  | .ok d ρ1 => match g d ρ1 with
    | some ρ2 => .nx ρ2
    | none => .bad
  | .exc e ρ1 => .exc e ρ1
  | .bad => .bad
noncomputable def Out.ofO (o : Option (List D)) : Out := match o with
  | some ρ => .nx ρ
  | none => .bad
@[simp] theorem ofO_some : Out.ofO (some ρ) = .nx ρ := rfl
@[simp] theorem ofO_none : Out.ofO none = .bad := rfl
@[simp] theorem asgT_ok {g : MB} : (RR.ok d ρ).asgT g = Out.ofO (g d ρ) := by
  show (match g d ρ with | some ρ2 => Out.nx ρ2 | none => .bad) = _
  cases g d ρ <;> rfl
@[simp] theorem asgT_exc {g : MB} : (RR.exc e ρ : RR D).asgT g = .exc e ρ := rfl
@[simp] theorem asgT_bad {g : MB} : (RR.bad : RR D).asgT g = .bad := rfl
@[simp] theorem mAsgT_eq {g : MB} : mAsgT g a ρ = (a ρ).asgT g := rfl
noncomputable def RR.par1 (o : RR D) (i j : Nat) (b : ME) : Out := match o with
  | .ok d ρ1 => match b ρ1 with
    | .ok d2 ρ2 => .nx ((ρ2.set i d).set j d2)
    | .exc e ρ1 => .exc e ρ1
    | .bad => .bad
  | .exc e ρ1 => .exc e ρ1
  | .bad => .bad
noncomputable def RR.par2 (o : RR D) (i j : Nat) (d : D) : Out := match o with
    | .ok d2 ρ2 => .nx ((ρ2.set i d).set j d2)
    | .exc e ρ1 => .exc e ρ1
    | .bad => .bad
@[simp] theorem par1_ok : (RR.ok d ρ).par1 i j b = (b ρ).par2 i j d := rfl
@[simp] theorem par1_exc : (RR.exc e ρ : RR D).par1 i j b = .exc e ρ := rfl
@[simp] theorem par1_bad : (RR.bad : RR D).par1 i j b = .bad := rfl
@[simp] theorem par2_ok : (RR.ok x ρ).par2 i j d = .nx ((ρ.set i d).set j x) := rfl
@[simp] theorem par2_exc : (RR.exc e ρ : RR D).par2 i j d = .exc e ρ := rfl
@[simp] theorem par2_bad : (RR.bad : RR D).par2 i j d = .bad := rfl
@[simp] theorem mPar_eq : mPar i j a b ρ = (a ρ).par1 i j b := rfl
noncomputable def RR.raise (o : RR (List D)) (er : Err) : Out := match o with
  | .ok _ ρ1 => .exc er ρ1
  | .exc e ρ1 => .exc e ρ1
  | .bad => .bad
@[simp] theorem raise_ok {er : Err} : (RR.ok ds ρ).raise er = .exc er ρ := rfl
@[simp] theorem raise_exc {er : Err} : (RR.exc e ρ : RR (List D)).raise er = .exc e ρ := rfl
@[simp] theorem raise_bad {er : Err} : (RR.bad : RR (List D)).raise er = .bad := rfl
@[simp] theorem mRaise_eq {er : Err} : mRaise er ma ρ = (ma ρ).raise er := rfl
noncomputable def Out.tryBy (o : Out) (tags : List Nat) (n : Nat) (μh : List Mode) (h : Err → MS) : Out := match o with
  | .exc e ρ1 => if tags.contains e.tag = true then (if errIs e n = true then h e (keep μh ρ1) else .exc e ρ1) else .bad
  | o => o
section
variable {tags : List Nat} {n : Nat} {μh : List Mode} {h : Err → MS}
@[simp] theorem try_nx : (Out.nx ρ).tryBy tags n μh h = .nx ρ := rfl
@[simp] theorem try_ret : (Out.ret d ρ).tryBy tags n μh h = .ret d ρ := rfl
@[simp] theorem try_brk : (Out.brk ρ).tryBy tags n μh h = .brk ρ := rfl
@[simp] theorem try_cnt : (Out.cnt ρ).tryBy tags n μh h = .cnt ρ := rfl
@[simp] theorem try_bad : Out.bad.tryBy tags n μh h = .bad := rfl
@[simp] theorem try_exc : (Out.exc e ρ).tryBy tags n μh h = if tags.contains e.tag = true then (if errIs e n = true then h e (keep μh ρ) else .exc e ρ) else .bad := rfl
@[simp] theorem mTry_eq : mTry tags n μh s1 h ρ = (s1 ρ).tryBy tags n μh h := by unfold mTry; cases s1 ρ <;> rfl
end
noncomputable def RR.itT (o : RR D) : RR (List D) := o.bind fun d ρ1 => RR.of (match d with | .tup ds => some ds | _ => none) ρ1
@[simp] theorem itT_tup : (RR.ok (.tup ds) ρ).itT = .ok ds ρ := rfl
@[simp] theorem itT_exc : (RR.exc e ρ : RR D).itT = .exc e ρ := rfl
@[simp] theorem itT_bad : (RR.bad : RR D).itT = .bad := rfl
@[simp] theorem mItT_eq : mItT a ρ = (a ρ).itT := rfl
@[simp] theorem items_lst : itemsOf (.lst ds) = some ds := rfl
@[simp] theorem items_scr {ns : List Int} : itemsOf (.scr ns) = some (ns.map .int) := rfl
noncomputable def RR.forIn' (o : RR (List D)) (g : MB) (s : MS) : Out := match o with
  | .ok ds ρ1 => forL g s ds ρ1
  | .exc e ρ1 => .exc e ρ1
  | .bad => .bad
@[simp] theorem forIn_ok {g : MB} : (RR.ok ds ρ).forIn' g s1 = forL g s1 ds ρ := rfl
@[simp] theorem forIn_exc {g : MB} : (RR.exc e ρ : RR (List D)).forIn' g s1 = .exc e ρ := rfl
@[simp] theorem forIn_bad {g : MB} : (RR.bad : RR (List D)).forIn' g s1 = .bad := rfl
@[simp] theorem mFor_eq {g : MB} : mFor ma g s1 ρ = (ma ρ).forIn' g s1 := rfl
noncomputable def Out.loop (o : Out) (k : MS) : Out := match o with
  | .nx ρ => k ρ
  | .cnt ρ => k ρ
  | .brk ρ => .nx ρ
  | o => o
@[simp] theorem loop_nx {k : MS} : (Out.nx ρ).loop k = k ρ := rfl
@[simp] theorem loop_cnt {k : MS} : (Out.cnt ρ).loop k = k ρ := rfl
@[simp] theorem loop_brk {k : MS} : (Out.brk ρ).loop k = .nx ρ := rfl
@[simp] theorem loop_ret {k : MS} : (Out.ret d ρ).loop k = .ret d ρ := rfl
@[simp] theorem loop_exc {k : MS} : (Out.exc e ρ).loop k = .exc e ρ := rfl
@[simp] theorem loop_bad {k : MS} : Out.bad.loop k = .bad := rfl
noncomputable def Out.bindO (o : Option (List D)) (s : MS) : Out := match o with
  | some ρ => s ρ
  | none => .bad
@[simp] theorem bindO_some : Out.bindO (some ρ) s1 = s1 ρ := rfl
@[simp] theorem bindO_none : Out.bindO none s1 = .bad := rfl
@[simp] theorem forL_nil {g : MB} : forL g s1 [] ρ = .nx ρ := rfl
theorem forL_cons {g : MB} : forL g s1 (d :: ds) ρ = (Out.bindO (g d ρ) s1).loop (forL g s1 ds) := by
  show (match g d ρ with | none => Out.bad | some ρ1 => match s1 ρ1 with | .nx ρ2 => forL g s1 ds ρ2 | .cnt ρ2 => forL g s1 ds ρ2 | .brk ρ2 => .nx ρ2 | o => o) = _
  cases g d ρ with
  | none => rfl
  | some ρ1 =>
    show (match s1 ρ1 with | .nx ρ2 => forL g s1 ds ρ2 | .cnt ρ2 => forL g s1 ds ρ2 | .brk ρ2 => Out.nx ρ2 | o => o) = (s1 ρ1).loop (forL g s1 ds)
    cases s1 ρ1 <;> rfl
theorem forL_same {g : MB} : ∀ {ds : List D}, (∀ d ∈ ds, ∃ ρ1, g d ρ = some ρ1 ∧ (s1 ρ1 = .nx ρ ∨ s1 ρ1 = .cnt ρ)) → forL g s1 ds ρ = .nx ρ
  | [], _ => rfl
  | d :: ds, h => by
    obtain ⟨ρ1, h1, h2⟩ := h d List.mem_cons_self
    rw [forL_cons, h1, bindO_some]
    rcases h2 with h2 | h2 <;> rw [h2] <;> exact forL_same fun d' hd => h d' (List.mem_cons_of_mem _ hd)
@[simp] theorem mWhile_eq {f : List D → Nat} : mWhile f t s1 ρ = whileN t s1 (f ρ) ρ := rfl
noncomputable def RR.wh (o : RR Bool) (s k : MS) : Out := match o with
  | .ok true ρ1 => (s ρ1).loop k
  | .ok false ρ1 => .nx ρ1
  | .exc e ρ1 => .exc e ρ1
  | .bad => .bad
@[simp] theorem wh_t {k : MS} : (RR.ok true ρ).wh s1 k = (s1 ρ).loop k := rfl
@[simp] theorem wh_f {k : MS} : (RR.ok false ρ).wh s1 k = .nx ρ := rfl
@[simp] theorem wh_exc {k : MS} : (RR.exc e ρ : RR Bool).wh s1 k = .exc e ρ := rfl
@[simp] theorem wh_bad {k : MS} : (RR.bad : RR Bool).wh s1 k = .bad := rfl
theorem whileN_succ {n : Nat} : whileN t s1 (n + 1) ρ = (t ρ).wh s1 (whileN t s1 n) := by
  show (match t ρ with | .ok true ρ1 => (match s1 ρ1 with | .nx ρ2 => whileN t s1 n ρ2 | .cnt ρ2 => whileN t s1 n ρ2 | .brk ρ2 => Out.nx ρ2 | o => o) | .ok false ρ1 => .nx ρ1 | .exc e ρ1 => .exc e ρ1 | .bad => .bad) = _
  cases t ρ with
  | ok x ρ1 =>
    cases x with
    | true =>
      show (match s1 ρ1 with | .nx ρ2 => whileN t s1 n ρ2 | .cnt ρ2 => whileN t s1 n ρ2 | .brk ρ2 => Out.nx ρ2 | o => o) = (s1 ρ1).loop (whileN t s1 n)
      cases s1 ρ1 <;> rfl
    | false => rfl
  | exc _ _ => rfl
  | bad => rfl
end
section
variable {α : Type} {a b c : ME} {ma : MA} {t : MT} {ρ : List D} {d x y : D} {ds es acc : List D} {e : Err} {i : Nat} {f g : D → D → Option Bool}
noncomputable def asLst : D → Option (List D)
  | .lst ds => some ds
  | _ => none
@[simp] theorem asLst_lst : asLst (.lst ds) = some ds := rfl
@[simp] theorem lstAt_eq : lstAt i ρ = asLst (ρ.getD i .non) := rfl
noncomputable def Out.app (o : Option (List D)) (i : Nat) (d : D) (ρ : List D) : Out := match o with
  | some ds => if ds.length < 1000000 then .nx (ρ.set i (.lst (ds ++ [d]))) else .bad
  | none => .bad
@[simp] theorem app_some : Out.app (some ds) i d ρ = if ds.length < 1000000 then .nx (ρ.set i (.lst (ds ++ [d]))) else .bad := rfl
noncomputable def RR.app (o : RR D) (i : Nat) : Out := match o with
  | .ok d ρ1 => Out.app (asLst (ρ1.getD i .non)) i d ρ1
  | .exc e ρ1 => .exc e ρ1
  | .bad => .bad
@[simp] theorem rapp_ok : (RR.ok d ρ).app i = Out.app (asLst (ρ.getD i .non)) i d ρ := rfl
@[simp] theorem rapp_exc : (RR.exc e ρ : RR D).app i = .exc e ρ := rfl
@[simp] theorem rapp_bad : (RR.bad : RR D).app i = .bad := rfl
noncomputable def Out.app0 (o : Option (List D)) (r : RR D) (i : Nat) : Out := match o with
  | some _ => r.app i
  | none => .bad
@[simp] theorem app0_some {r : RR D} : Out.app0 (some ds) r i = r.app i := rfl
@[simp] theorem mApp_eq : mApp i a ρ = Out.app0 (asLst (ρ.getD i .non)) (a ρ) i := by
  unfold mApp Out.app0
  rw [lstAt_eq]
  cases asLst (ρ.getD i .non) with
  | none => rfl
  | some ds =>
    unfold RR.app Out.app
    cases a ρ with
    | ok d ρ1 => simp only [lstAt_eq] <;> (cases asLst (ρ1.getD i .non) <;> rfl)
    | exc _ _ => rfl
    | bad => rfl
noncomputable def lenO (o : D) (ρ : List D) : RR D := match o with
  | .lst ds => .ok (.int ds.length) ρ
  | _ => .bad
@[simp] theorem lenO_lst : lenO (.lst ds) ρ = .ok (.int ds.length) ρ := rfl
@[simp] theorem mLenO_eq : mLenO i ρ = lenO (ρ.getD i .non) ρ := rfl
@[simp] theorem mYes_eq : mYes ρ = .ok true ρ := rfl
noncomputable def RR.lc (o : RR (List D)) (b : MB) (t : MT) (a : ME) (μ : List Mode) : RR D := o.bind fun ds ρ1 => lcL b t a μ ds [] ρ1
@[simp] theorem lc_ok {b : MB} {μ : List Mode} : (RR.ok ds ρ).lc b t a μ = lcL b t a μ ds [] ρ := rfl
@[simp] theorem lc_exc {b : MB} {μ : List Mode} : (RR.exc e ρ : RR (List D)).lc b t a μ = .exc e ρ := rfl
@[simp] theorem lc_bad {b : MB} {μ : List Mode} : (RR.bad : RR (List D)).lc b t a μ = .bad := rfl
@[simp] theorem mLc_eq {b : MB} {μ : List Mode} : mLc ma b t a μ ρ = (ma ρ).lc b t a μ := rfl
@[simp] theorem lcL_nil {b : MB} {μ : List Mode} : lcL b t a μ [] acc ρ = .ok (.lst acc) ρ := rfl
theorem lcL_run {b : MB} {μ : List Mode} (s : D → Bool) (v : D → D) : ∀ (ds acc : List D), (∀ d ∈ ds, ∃ ρ1 ρ2, b d ρ = some ρ1 ∧ t ρ1 = .ok (s d) ρ2 ∧ (s d = false → keep μ ρ2 = ρ) ∧ (s d = true → ∃ ρ3, a ρ2 = .ok (v d) ρ3 ∧ keep μ ρ3 = ρ)) → acc.length + ds.length ≤ 1000000 →
    lcL b t a μ ds acc ρ = .ok (.lst (acc ++ (ds.filter s).map v)) ρ
  | [], acc, _, _ => by simp
  | d :: ds, acc, h, hl => by
    obtain ⟨ρ1, ρ2, h1, h2, h3, h4⟩ := h d List.mem_cons_self
    unfold lcL
    rw [h1]
    simp only [h2]
    cases q : s d with
    | false =>
      simp only
      rw [h3 q, lcL_run s v ds acc (fun d' hd => h d' (List.mem_cons_of_mem _ hd)) (by simp at hl; omega)]
      simp [q]
    | true =>
      obtain ⟨ρ3, h5, h6⟩ := h4 q
      simp only [h5]
      simp only [List.length_cons] at hl
      rw [if_pos (by omega), h6, lcL_run s v ds (acc ++ [v d]) (fun d' hd => h d' (List.mem_cons_of_mem _ hd)) (by simp; omega)]
      simp [q]
theorem lcL_map {b : MB} {μ : List Mode} (v : D → D) (ds : List D) (h : ∀ d ∈ ds, ∃ ρ1 ρ3, b d ρ = some ρ1 ∧ a ρ1 = .ok (v d) ρ3 ∧ keep μ ρ3 = ρ) (hl : ds.length ≤ 1000000) :
    lcL b mYes a μ ds [] ρ = .ok (.lst (ds.map v)) ρ := by
  have := lcL_run (t := mYes) (a := a) (b := b) (μ := μ) (ρ := ρ) (fun _ => true) v ds [] (fun d hd => by
    obtain ⟨ρ1, ρ3, h1, h2, h3⟩ := h d hd
    exact ⟨ρ1, ρ1, h1, rfl, (fun z => by cases z), fun _ => ⟨ρ3, h2, h3⟩⟩) (by simpa using hl)
  have e : ds.filter (fun _ => true) = ds := List.filter_eq_self.mpr fun _ _ => rfl
  rw [e] at this
  simpa using this
noncomputable def RR.sl1 (o : RR D) (f : Option Int → Option Int → D → Option D) (lo hi : MO) : RR D := o.bind fun d ρ1 => (lo ρ1).bind fun l ρ2 => (hi ρ2).bind fun u ρ3 => RR.of (f l u d) ρ3
noncomputable def RR.sl2 (o : RR (Option Int)) (f : Option Int → Option Int → D → Option D) (d : D) (hi : MO) : RR D := o.bind fun l ρ2 => (hi ρ2).bind fun u ρ3 => RR.of (f l u d) ρ3
noncomputable def RR.sl3 (o : RR (Option Int)) (f : Option Int → Option Int → D → Option D) (d : D) (l : Option Int) : RR D := o.bind fun u ρ3 => RR.of (f l u d) ρ3
@[simp] theorem sl1_ok {h : Option Int → Option Int → D → Option D} {lo hi : MO} : (RR.ok d ρ).sl1 h lo hi = (lo ρ).sl2 h d hi := rfl
@[simp] theorem sl1_exc {h : Option Int → Option Int → D → Option D} {lo hi : MO} : (RR.exc e ρ : RR D).sl1 h lo hi = .exc e ρ := rfl
@[simp] theorem sl2_ok {h : Option Int → Option Int → D → Option D} {l : Option Int} {hi : MO} : (RR.ok l ρ).sl2 h d hi = (hi ρ).sl3 h d l := rfl
@[simp] theorem sl3_ok {h : Option Int → Option Int → D → Option D} {l u : Option Int} : (RR.ok u ρ).sl3 h d l = RR.of (h l u d) ρ := rfl
@[simp] theorem mSl_eq {h : Option Int → Option Int → D → Option D} {lo hi : MO} : mSl h a lo hi ρ = (a ρ).sl1 h lo hi := rfl
@[simp] theorem mNoPart_eq : mNoPart ρ = .ok none ρ := rfl
noncomputable def RR.part (o : RR D) : RR (Option Int) := o.bind fun d ρ1 => RR.of (asInt d) ρ1
@[simp] theorem part_ok {k : Int} : (RR.ok (.int k) ρ).part = .ok (some k) ρ := rfl
@[simp] theorem part_exc : (RR.exc e ρ : RR D).part = .exc e ρ := rfl
@[simp] theorem mPart_eq : mPart a ρ = (a ρ).part := rfl
@[simp] theorem fSl_lst {lo hi : Option Int} : fSl lo hi (.lst ds) = some (.lst (cutD ds lo hi)) := rfl
@[simp] theorem fSl_tup {lo hi : Option Int} : fSl lo hi (.tup ds) = some (.tup (cutD ds lo hi)) := rfl
@[simp] theorem fSl_str {lo hi : Option Int} {z : Str} : fSl lo hi (.str z) = if z.length ≤ sizeLine then some (.str (cutS z lo hi)) else none := rfl
theorem cutD_to {α : Type} {xs : List α} {k : Nat} : cutD xs none (some (k : Int)) = xs.take k := by
  unfold cutD
  rw [HT.sIx_none, HT.sIx_nat, List.drop_zero, Nat.sub_zero]
  by_cases h : k ≤ xs.length
  · rw [Nat.min_eq_left h]
  · rw [Nat.min_eq_right (by omega), List.take_length, List.take_of_length_le (by omega)]
theorem cutD_from {α : Type} {xs : List α} {k : Nat} : cutD xs (some (k : Int)) none = xs.drop k := by
  unfold cutD
  rw [HT.sIx_none, HT.sIx_nat]
  by_cases h : k ≤ xs.length
  · rw [Nat.min_eq_left h]
    exact List.take_of_length_le (by simp)
  · rw [Nat.min_eq_right (by omega), List.drop_length, List.take_nil, List.drop_eq_nil_of_le (by omega)]
noncomputable def setO (o : RR D) (i : Nat) (d : D) : Option (List D) := match o with
  | .ok (.int k) ρ1 => (asLst (ρ1.getD i .non)).bind fun ds => (setD ds k d).map fun es => ρ1.set i (.lst es)
  | _ => none
@[simp] theorem setO_ok {k : Int} : setO (.ok (.int k) ρ) i d = (asLst (ρ.getD i .non)).bind fun ds => (setD ds k d).map fun es => ρ.set i (.lst es) := rfl
@[simp] theorem bSetO_eq : bSetO i a d ρ = setO (a ρ) i d := by
  unfold bSetO setO
  cases a ρ with
  | ok y ρ1 =>
    cases y <;> first | rfl | (simp only [lstAt_eq]; cases asLst (ρ1.getD i .non) <;> rfl)
  | exc _ _ => rfl
  | bad => rfl
theorem setD_nat {k : Nat} (h : k < ds.length) : setD ds (k : Int) d = some (ds.set k d) := by
  unfold setD ixN
  simp [h]
@[simp] theorem rng1_eq {n : Int} : rng1 [.int n] = if -1000000 ≤ n ∧ n ≤ 1000000 then some (ilist 0 n.toNat) else none := rfl
theorem ilist_from {lo : Int} {n : Nat} : ilist lo n = (List.range' 0 n).map fun (i : Nat) => D.int (lo + (i : Int)) := by
  unfold ilist
  rw [List.range_eq_range']
theorem forL_range_aux {i : Nat} {s1 : MS} (ρ : Nat → List D) : ∀ (n j : Nat), (∀ k, j ≤ k → k < j + n → s1 ((ρ k).set i (.int (k : Int))) = .nx (ρ (k + 1)) ∨ s1 ((ρ k).set i (.int (k : Int))) = .cnt (ρ (k + 1))) →
    forL (bName i) s1 ((List.range' j n).map fun (k : Nat) => D.int (0 + (k : Int))) (ρ j) = .nx (ρ (j + n))
  | 0, j, _ => rfl
  | n + 1, j, h => by
    rw [List.range'_succ, List.map_cons, forL_cons, bName_eq, bindO_some, Int.zero_add]
    have ih := forL_range_aux ρ n (j + 1) fun k h1 h2 => h k (by omega) (by omega)
    rw [show j + 1 + n = j + (n + 1) by omega] at ih
    rcases h j (Nat.le_refl j) (by omega) with e | e
    · rw [e, loop_nx]; exact ih
    · rw [e, loop_cnt]; exact ih
theorem forL_range {i : Nat} {s1 : MS} (ρ : Nat → List D) (n : Nat) (h : ∀ k, k < n → s1 ((ρ k).set i (.int (k : Int))) = .nx (ρ (k + 1)) ∨ s1 ((ρ k).set i (.int (k : Int))) = .cnt (ρ (k + 1))) : forL (bName i) s1 (ilist 0 n) (ρ 0) = .nx (ρ n) := by
  have := forL_range_aux (s1 := s1) (i := i) ρ n 0 fun k _ h2 => h k (by omega)
  rw [Nat.zero_add] at this
  rw [ilist_from]
  exact this
theorem mem_ilist {lo : Int} {n : Nat} {d : D} (h : d ∈ ilist lo n) : ∃ i : Nat, i < n ∧ d = .int (lo + i) := by
  unfold ilist at h
  obtain ⟨i, hi, e⟩ := List.mem_map.mp h
  exact ⟨i, List.mem_range.mp hi, e.symm⟩
end
section
variable {i j : Int} {a b : Str} {p q : Bool} {ds es : List D} {x y : D}
@[simp] theorem fInt_eq {g : Int → Int → Int} : fInt g (.int i) (.int j) = some (.int (g i j)) := rfl
@[simp] theorem fIntC_eq {c : Int → Int → Prop} [∀ i j, Decidable (c i j)] {g : Int → Int → Int} : fIntC c g (.int i) (.int j) = if c i j then some (.int (g i j)) else none := rfl
@[simp] theorem fAdd_int : fAdd (.int i) (.int j) = some (.int (i + j)) := rfl
@[simp] theorem fAdd_str : fAdd (.str a) (.str b) = if a.length + b.length ≤ sizeLine then some (.str (a ++ b)) else none := rfl
@[simp] theorem fAdd_tup : fAdd (.tup ds) (.tup es) = if ds.isEmpty = false ∧ es.isEmpty = false ∧ ds.length + es.length ≤ sizeLine then some (.tup (ds ++ es)) else none := rfl
@[simp] theorem fAdd_lst : fAdd (.lst ds) (.lst es) = if ds.length + es.length ≤ sizeLine then some (.lst (ds ++ es)) else none := rfl
@[simp] theorem fNeg_eq : fNeg (.int i) = some (.int (-i)) := rfl
@[simp] theorem fNotV_eq : fNotV (.bl p) = some (.bl (!p)) := rfl
@[simp] theorem fLt_int : fLt (.int i) (.int j) = some (decide (i < j)) := rfl
@[simp] theorem fGt_int : fGt (.int i) (.int j) = some (decide (j < i)) := rfl
@[simp] theorem fGe_int : fGe (.int i) (.int j) = some (decide (j ≤ i)) := rfl
@[simp] theorem fLt_str : fLt (.str a) (.str b) = some (decide (a.cps.toList < b.cps.toList)) := rfl
@[simp] theorem fEq_int : fEq (.int i) (.int j) = some (decide (i = j)) := rfl
@[simp] theorem fEq_str : fEq (.str a) (.str b) = some (decide (a = b)) := rfl
@[simp] theorem fEq_bl : fEq (.bl p) (.bl q) = some (decide (p = q)) := rfl
@[simp] theorem fNe_int : fNe (.int i) (.int j) = some (!decide (i = j)) := rfl
@[simp] theorem fNe_str : fNe (.str a) (.str b) = some (!decide (a = b)) := rfl
@[simp] theorem fNe_bl : fNe (.bl p) (.bl q) = some (!decide (p = q)) := rfl
@[simp] theorem truth_bl : truth (.bl p) = some p := rfl
@[simp] theorem truth_int : truth (.int i) = some (i != 0) := rfl
@[simp] theorem truth_lst : truth (.lst ds) = some (!ds.isEmpty) := rfl
@[simp] theorem truth_scr {ns : List Int} : truth (.scr ns) = some (!ns.isEmpty) := rfl
@[simp] theorem truth_non : truth .non = some false := rfl
@[simp] theorem fLen_lst : fLen [.lst ds] = some (.int ds.length) := rfl
@[simp] theorem fLen_tup : fLen [.tup ds] = some (.int ds.length) := rfl
@[simp] theorem fLen_scr {ns : List Int} : fLen [.scr ns] = some (.int ns.length) := rfl
@[simp] theorem fLen_str : fLen [.str a] = if a.length ≤ sizeLine then some (.int a.length) else none := rfl
@[simp] theorem fAbs_eq : fAbs [.int i] = some (.int i.natAbs) := by
  show some (D.int (if i < 0 then -i else i)) = _
  congr 2
  split <;> omega
@[simp] theorem fIntOf_int : fIntOf [.int i] = some (.int i) := rfl
@[simp] theorem fIntOf_bl : fIntOf [.bl p] = some (.int (if p then 1 else 0)) := rfl
@[simp] theorem fIx_lst : fIx (.lst ds) (.int i) = atI ds i := rfl
@[simp] theorem fIx_tup : fIx (.tup ds) (.int i) = atI ds i := rfl
@[simp] theorem fIx_scr {ns : List Int} : fIx (.scr ns) (.int i) = (atI ns i).map .int := rfl
theorem atI_nat' {α : Type} {xs : List α} {n : Nat} : atI xs (n : Int) = xs[n]? := by
  unfold atI ixN
  by_cases h : (n : Int) < xs.length
  · rw [if_pos (by omega), if_pos h]
    simp
  · rw [if_pos (by omega), if_neg h]
    simp only [Option.bind_none]
    exact (List.getElem?_eq_none (by omega)).symm
@[simp] theorem atI_zero {α : Type} {x : α} {xs : List α} : atI (x :: xs) 0 = some x := atI_nat' (n := 0)
@[simp] theorem atI_one {α : Type} {x y : α} {xs : List α} : atI (x :: y :: xs) 1 = some y := atI_nat' (n := 1)
@[simp] theorem atI_two {α : Type} {x y z : α} {xs : List α} : atI (x :: y :: z :: xs) 2 = some z := atI_nat' (n := 2)
@[simp] theorem atI_three {α : Type} {x y z u : α} {xs : List α} : atI (x :: y :: z :: u :: xs) 3 = some u := atI_nat' (n := 3)
@[simp] theorem atI_four {α : Type} {x y z u v : α} {xs : List α} : atI (x :: y :: z :: u :: v :: xs) 4 = some v := atI_nat' (n := 4)
theorem kit_bool_bool : kitB "bool" "bool" = some true := by decide +kernel
theorem kit_int_bool : kitB "int" "bool" = some false := by decide +kernel
theorem kit_int_int : kitB "int" "int" = some true := by decide +kernel
theorem kit_bool_int : kitB "bool" "int" = some true := by decide +kernel
theorem kit_tuple_tuple : kitB "tuple" "tuple" = some true := by decide +kernel
theorem kit_list_list : kitB "list" "list" = some true := by decide +kernel
theorem kit_str_int : kitB "str" "int" = some false := by decide +kernel
theorem kit_non_int : kitB "NoneType" "int" = some false := by decide +kernel
theorem kit_tuple_int : kitB "tuple" "int" = some false := by decide +kernel
theorem kit_list_int : kitB "list" "int" = some false := by decide +kernel
theorem kit_dict_int : kitB "dict" "int" = some false := by decide +kernel
@[simp] theorem isi_bl_bool : fIsi "bool" (.bl p) = some (.bl true) := by unfold fIsi tyName; simp [kit_bool_bool]
@[simp] theorem isi_int_bool : fIsi "bool" (.int i) = some (.bl false) := by unfold fIsi tyName; simp [kit_int_bool]
@[simp] theorem isi_int_int : fIsi "int" (.int i) = some (.bl true) := by unfold fIsi tyName; simp [kit_int_int]
@[simp] theorem isi_bl_int : fIsi "int" (.bl p) = some (.bl true) := by unfold fIsi tyName; simp [kit_bool_int]
@[simp] theorem isi_tup_tuple : fIsi "tuple" (.tup ds) = some (.bl true) := by unfold fIsi tyName; simp [kit_tuple_tuple]
@[simp] theorem isi_lst_list : fIsi "list" (.lst ds) = some (.bl true) := by unfold fIsi tyName; simp [kit_list_list]
@[simp] theorem isi_str_int : fIsi "int" (.str a) = some (.bl false) := by unfold fIsi tyName; simp [kit_str_int]
@[simp] theorem isi_non_int : fIsi "int" .non = some (.bl false) := by unfold fIsi tyName; simp [kit_non_int]
@[simp] theorem isi_tup_int : fIsi "int" (.tup ds) = some (.bl false) := by unfold fIsi tyName; simp [kit_tuple_int]
@[simp] theorem isi_dK_int {kvs : List (Key × D)} : fIsi "int" (.dK kvs) = some (.bl false) := by unfold fIsi tyName; simp [kit_dict_int]
@[simp] theorem isi_lst_int : fIsi "int" (.lst ds) = some (.bl false) := by unfold fIsi tyName; simp [kit_list_int]
end
theorem log2_lt {n a : Nat} (h0 : 0 < a) (h : n < 2 ^ a) : n.log2 < a := PySem.Flt.log2_lt_of h0 h
theorem mulx {i j : Int} {a b : Nat} (ha : i.natAbs < 2 ^ a) (hb : j.natAbs < 2 ^ b) (h0 : 0 < a := by decide) (h1 : 0 < b := by decide) (h : a + b ≤ 134000000 := by decide) : CMulX i j := by
  have x := log2_lt h0 ha
  have y := log2_lt h1 hb
  unfold CMulX
  omega
theorem divx {i j : Int} {b : Nat} (h : j ≠ 0) (hb : j.natAbs < 2 ^ b) (h0 : 0 < b := by decide) (h9 : b ≤ 9000 := by decide) : CDivX i j := ⟨h, PyProof.noPylong_of_log2 (Nat.lt_of_lt_of_le (log2_lt h0 hb) h9)⟩
theorem divx2 {i j : Int} (h : j ≠ 0) (hb : i.natAbs < 2 ^ 13500) : CDivX i j := by
  refine ⟨h, ?_⟩
  have hl : i.natAbs.log2 < 13500 := log2_lt (by decide) hb
  have key : ∀ n : Nat, n < 451 → ∀ m : Nat, (decide (m > 300) && decide (n > m + 150)) = false := fun n hn m => by
    by_cases h : m > 300
    · rw [decide_eq_false (show ¬ n > m + 150 by omega), Bool.and_false]
    · rw [decide_eq_false h, Bool.false_and]
  refine key (if i == 0 then 0 else i.natAbs.log2 / 30 + 1) ?_ (if j == 0 then 0 else j.natAbs.log2 / 30 + 1)
  split <;> omega
end MR
namespace RV
open PySem L2 MR
noncomputable def b__law_cell : MS :=
  (mSeq (mIf (mCmpT fLt (mVar 1) (mCB fLen (mCons (mVar 0) mNil)))
  (mRet (mCB fIntOf (mCons (mOp fIx (mVar 0) (mVar 1)) mNil)))
  (mKeep [.x, .d] mNext))
  (mRet (mOp fAdd (mOp (fIntC CMulX (· * ·)) (mC (.int 13)) (mVar 1)) (mC (.int 2)))))
noncomputable def m__law_cell : MP := mDef .d 0 b__law_cell
noncomputable def b__law_low_L0 : MS :=
  (mPar 2 3 (mVar 3) (mOp (fIntC CModX Int.fmod) (mCB fIntOf (mCons (mVar 2) mNil)) (mVar 3)))
noncomputable def b__law_low : MS :=
  (mSeq (mAsg 2 (mCB fAbs (mCons (mVar 0) mNil)))
  (mSeq (mAsg 3 (mCB fAbs (mCons (mVar 1) mNil)))
  (mSeq (mWhile (fun ρ => (ρ.getD 3 .non).nat + 1) (mCmpT fGt (mVar 3) (mC (.int 0))) b__law_low_L0)
  (mSeq (mIf (mCmpT fLt (mVar 1) (mC (.int 0)))
  (mRet (mTup (mCons (mOp (fInt (· - ·)) (mC (.int 0)) (mOp (fIntC CDivX Int.fdiv) (mVar 0) (mVar 2))) (mCons (mOp (fInt (· - ·)) (mC (.int 0)) (mOp (fIntC CDivX Int.fdiv) (mVar 1) (mVar 2))) mNil))))
  (mKeep [.d, .d, .d, .x] mNext))
  (mRet (mTup (mCons (mOp (fIntC CDivX Int.fdiv) (mVar 0) (mVar 2)) (mCons (mOp (fIntC CDivX Int.fdiv) (mVar 1) (mVar 2)) mNil))))))))
noncomputable def m__law_low : MP := mDef .d 2 b__law_low
noncomputable def b_is_integer : MS :=
  (mRet (mAndV (mUn (fIsi "int") (mVar 0)) (mUn fNotV (mUn (fIsi "bool") (mVar 0)))))
noncomputable def m_is_integer : MP := mDef .d 0 b_is_integer
noncomputable def b_common_divisor_L0 : MS :=
  (mPar 0 1 (mVar 1) (mOp (fIntC CModX Int.fmod) (mVar 0) (mVar 1)))
noncomputable def b_common_divisor : MS :=
  (mSeq (mWhile (fun ρ => (ρ.getD 1 .non).nat + 1) (mCmpT fNe (mVar 1) (mC (.int 0))) b_common_divisor_L0)
  (mRet (mCB fAbs (mCons (mVar 0) mNil))))
noncomputable def m_common_divisor : MP := mDef .d 0 b_common_divisor
noncomputable def b_ratio : MS :=
  (mSeq (mIf (mOr (mNot (mTr (mCall RV.m_is_integer [] (mCons (mVar 0) mNil)))) (mOr (mNot (mTr (mCall RV.m_is_integer [] (mCons (mVar 1) mNil)))) (mCmpT fLt (mVar 1) (mC (.int 1)))))
  (mRaise .ratio (mCons (mC (.str (Str.ofString "ratio"))) mNil))
  mNext)
  (mSeq (mAsg 2 (mCall RV.m_common_divisor [] (mCons (mVar 0) (mCons (mVar 1) mNil))))
  (mRet (mTup (mCons (mOp (fIntC CDivX Int.fdiv) (mVar 0) (mVar 2)) (mCons (mOp (fIntC CDivX Int.fdiv) (mVar 1) (mVar 2)) mNil))))))
noncomputable def m_ratio : MP := mDef .d 1 b_ratio
noncomputable def b_over : MS :=
  (mSeq (mIf (mCmpT fEq (mOp fIx (mVar 1) (mC (.int 0))) (mC (.int 0)))
  (mRaise .ratio (mCons (mC (.str (Str.ofString "quotient by 0"))) mNil))
  mNext)
  (mSeq (mAsg 2 (mOp (fIntC CMulX (· * ·)) (mOp fIx (mVar 0) (mC (.int 0))) (mOp fIx (mVar 1) (mC (.int 1)))))
  (mSeq (mAsg 3 (mOp (fIntC CMulX (· * ·)) (mOp fIx (mVar 0) (mC (.int 1))) (mOp fIx (mVar 1) (mC (.int 0)))))
  (mSeq (mIf (mCmpT fLt (mVar 3) (mC (.int 0)))
  (mKeep [.x, .x, .d, .d] (mSeq (mAsg 2 (mUn fNeg (mVar 2)))
  (mAsg 3 (mUn fNeg (mVar 3)))))
  (mKeep [.x, .x, .d, .d] mNext))
  (mRet (mCall RV.m_ratio [] (mCons (mVar 2) (mCons (mVar 3) mNil))))))))
noncomputable def m_over : MP := mDef .d 2 b_over
noncomputable def b_sub : MS :=
  (mRet (mCall RV.m_ratio [] (mCons (mOp (fInt (· - ·)) (mOp (fIntC CMulX (· * ·)) (mOp fIx (mVar 0) (mC (.int 0))) (mOp fIx (mVar 1) (mC (.int 1)))) (mOp (fIntC CMulX (· * ·)) (mOp fIx (mVar 1) (mC (.int 0))) (mOp fIx (mVar 0) (mC (.int 1))))) (mCons (mOp (fIntC CMulX (· * ·)) (mOp fIx (mVar 0) (mC (.int 1))) (mOp fIx (mVar 1) (mC (.int 1)))) mNil))))
noncomputable def m_sub : MP := mDef .d 0 b_sub
noncomputable def b_times : MS :=
  (mRet (mCall RV.m_ratio [] (mCons (mOp (fIntC CMulX (· * ·)) (mOp fIx (mVar 0) (mC (.int 0))) (mOp fIx (mVar 1) (mC (.int 0)))) (mCons (mOp (fIntC CMulX (· * ·)) (mOp fIx (mVar 0) (mC (.int 1))) (mOp fIx (mVar 1) (mC (.int 1)))) mNil))))
noncomputable def m_times : MP := mDef .d 0 b_times
noncomputable def b__law_is_ratio_L0 : MS :=
  (mIf (mOr (mNot (mTr (mUn (fIsi "int") (mVar 1)))) (mTr (mUn (fIsi "bool") (mVar 1))))
  (mRet (mC (.bl false)))
  (mKeep [.d, .x] mNext))
noncomputable def b__law_is_ratio : MS :=
  (mSeq (mIf (mOr (mNot (mTr (mUn (fIsi "tuple") (mVar 0)))) (mCmpT fNe (mCB fLen (mCons (mVar 0) mNil)) (mC (.int 2))))
  (mRet (mC (.bl false)))
  mNext)
  (mSeq (mFor (mItT (mVar 0)) (bName 1) b__law_is_ratio_L0)
  (mRet (mAndV (mCmp fGe (mOp fIx (mVar 0) (mC (.int 1))) (mC (.int 1))) (mCmp fEq (mCall RV.m__law_low [] (mCons (mOp fIx (mVar 0) (mC (.int 0))) (mCons (mOp fIx (mVar 0) (mC (.int 1))) mNil))) (mVar 0))))))
noncomputable def m__law_is_ratio : MP := mDef .d 1 b__law_is_ratio
noncomputable def b__law_small : MS :=
  (mRet (mCall RV.m__law_low [] (mCons (mOp (fInt (· - ·)) (mOp (fIntC CModX Int.fmod) (mVar 0) (mC (.int 13))) (mC (.int 6))) (mCons (mOp fAdd (mC (.int 1)) (mOp (fIntC CModX Int.fmod) (mOp (fIntC CDivX Int.fdiv) (mVar 0) (mC (.int 13))) (mOp fIx (mLst (mCons (mC (.int 1)) (mCons (mC (.int 4)) (mCons (mC (.int 9)) mNil)))) (mOp (fIntC CModX Int.fmod) (mOp (fIntC CDivX Int.fdiv) (mVar 0) (mC (.int 60))) (mC (.int 3)))))) mNil))))
noncomputable def m__law_small : MP := mDef .d 0 b__law_small
noncomputable def b__law_sum_L0 : MS :=
  (mKeep [.d, .d, .d, .x] (mSeq (mAsg 1 (mOp fAdd (mOp (fIntC CMulX (· * ·)) (mVar 1) (mOp fIx (mVar 3) (mC (.int 1)))) (mOp (fIntC CMulX (· * ·)) (mOp fIx (mVar 3) (mC (.int 0))) (mVar 2))))
  (mAsg 2 (mOp (fIntC CMulX (· * ·)) (mVar 2) (mOp fIx (mVar 3) (mC (.int 1)))))))
noncomputable def b__law_sum : MS :=
  (mSeq (mAsg 1 (mC (.int 0)))
  (mSeq (mAsg 2 (mC (.int 1)))
  (mSeq (mFor (mItL (mVar 0)) (bName 3) b__law_sum_L0)
  (mRet (mCall RV.m__law_low [] (mCons (mVar 1) (mCons (mVar 2) mNil)))))))
noncomputable def m__law_sum : MP := mDef .d 3 b__law_sum
noncomputable def b__law_times : MS :=
  (mRet (mCall RV.m__law_low [] (mCons (mOp (fIntC CMulX (· * ·)) (mOp fIx (mVar 0) (mC (.int 0))) (mOp fIx (mVar 1) (mC (.int 0)))) (mCons (mOp (fIntC CMulX (· * ·)) (mOp fIx (mVar 0) (mC (.int 1))) (mOp fIx (mVar 1) (mC (.int 1)))) mNil))))
noncomputable def m__law_times : MP := mDef .d 0 b__law_times
noncomputable def b__law_product_C1e : ME :=
  (mCall RV.m__law_times [] (mCons (mOp fIx (mVar 2) (mVar 3)) (mCons (mOp fIx (mVar 1) (mVar 3)) mNil)))
noncomputable def b__law_product_C1 : ME :=
  (mLc (mRng rng1 (mCons (mCB fLen (mCons (mVar 1) mNil)) mNil)) (bName 3) mYes b__law_product_C1e [.d, .d, .d, .x])
noncomputable def b__law_product_C0e : ME :=
  (mCall RV.m__law_sum [] (mCons b__law_product_C1 mNil))
noncomputable def b__law_product_C0 : ME :=
  (mLc (mItL (mVar 0)) (bName 2) mYes b__law_product_C0e [.d, .d, .x, .x])
noncomputable def b__law_product : MS :=
  (mRet b__law_product_C0)
noncomputable def m__law_product : MP := mDef .o 2 b__law_product
noncomputable def b_without_column_C0e : ME :=
  (mCall RV.m_sub [] (mCons (mVar 4) (mCons (mCall RV.m_times [] (mCons (mVar 3) (mCons (mVar 5) mNil))) mNil)))
noncomputable def b_without_column_C0 : ME :=
  (mLc (mRng zip2 (mCons (mVar 0) (mCons (mVar 1) mNil))) (bTup 2 (bCons (bName 4) (bCons (bName 5) bNil))) mYes b_without_column_C0e [.d, .d, .d, .d, .x, .x])
noncomputable def b_without_column : MS :=
  (mSeq (mAsg 3 (mCall RV.m_over [] (mCons (mOp fIx (mVar 0) (mVar 2)) (mCons (mOp fIx (mVar 1) (mVar 2)) mNil))))
  (mRet b_without_column_C0))
noncomputable def m_without_column : MP := mDef .o 3 b_without_column
noncomputable def b_solve_C0e : ME :=
  (mOp fAdd (mCB fListOf (mCons (mVar 6) mNil)) (mLst (mCons (mVar 7) mNil)))
noncomputable def b_solve_C0 : ME :=
  (mLc (mRng zip2 (mCons (mVar 0) (mCons (mVar 1) mNil))) (bTup 2 (bCons (bName 6) (bCons (bName 7) bNil))) mYes b_solve_C0e [.d, .d, .x, .x, .x, .x, .x, .x])
noncomputable def b_solve_L1 : MS :=
  (mAsg 4 (mOp fAdd (mVar 4) (mC (.int 1))))
noncomputable def b_solve_L2 : MS :=
  (mIf (mCmpT fNe (mVar 5) (mVar 3))
  (mKeep [.x, .x, .o, .d, .x, .x, .x, .x] (mAsgT (bSetO 2 (mVar 5)) (mCall RV.m_without_column [] (mCons (mIxO 2 (mVar 5)) (mCons (mIxO 2 (mVar 3)) (mCons (mVar 3) mNil))))))
  (mKeep [.x, .x, .o, .d, .x, .x, .x, .x] mNext))
noncomputable def b_solve_L0 : MS :=
  (mKeep [.x, .x, .o, .x, .x, .x, .x, .x] (mSeq (mAsg 4 (mVar 3))
  (mSeq (mWhile (fun ρ => (ρ.getD 2 .non).size + 1) (mAnd (mCmpT fLt (mVar 4) (mLenO 2)) (mCmpT fEq (mOp fIx (mIxO 2 (mVar 4)) (mVar 3)) (mC (.tup [(.int 0), (.int 1)])))) b_solve_L1)
  (mSeq (mIf (mCmpT fEq (mVar 4) (mLenO 2))
  (mRaise .singular (mCons (mC (.str (Str.ofString "equations"))) mNil))
  mNext)
  (mSeq (mAsgT (bTup 2 (bCons (bSetO 2 (mVar 3)) (bCons (bSetO 2 (mVar 4)) bNil))) (mTup (mCons (mIxO 2 (mVar 4)) (mCons (mIxO 2 (mVar 3)) mNil))))
  (mKeep0 [.x, .x, .o, .d, .x, .x, .x, .x] (mFor (mRng rng1 (mCons (mLenO 2) mNil)) (bName 5) b_solve_L2)))))))
noncomputable def b_solve_C1e : ME :=
  (mCall RV.m_over [] (mCons (mOp fIx (mVar 6) (mUn fNeg (mC (.int 1)))) (mCons (mOp fIx (mVar 6) (mVar 3)) mNil)))
noncomputable def b_solve_C1 : ME :=
  (mLc (mRng enum1 (mCons (mVar 2) mNil)) (bTup 2 (bCons (bName 3) (bCons (bName 6) bNil))) mYes b_solve_C1e [.x, .x, .d, .x, .x, .x, .x, .x])
noncomputable def b_solve : MS :=
  (mSeq (mAsg 2 b_solve_C0)
  (mSeq (mKeep0 [.x, .x, .o, .x, .x, .x, .x, .x] (mFor (mRng rng1 (mCons (mLenO 2) mNil)) (bName 3) b_solve_L0))
  (mRet b_solve_C1)))
noncomputable def m_solve : MP := mDef .o 6 b_solve
end RV
namespace RS
open PySem L2 MR
noncomputable abbrev tags : List Nat := [0, 2, 3, 4, 7]
end RS
namespace RU
open PySem L2 MR
noncomputable abbrev tags : List Nat := [0, 1, 2, 3, 4, 5, 6, 7]
end RU
namespace MR
open PySem L2
mutual
noncomputable def eqvD : D → D → Bool
  | .non, .non => true
  | .bl a, .bl b => a == b
  | .bl a, .int j => (if a then 1 else 0) == j
  | .int i, .bl b => i == (if b then 1 else 0)
  | .int i, .int j => i == j
  | .str x, .str y => x == y
  | .tup xs, .tup ys => eqvL xs ys
  | .lst xs, .lst ys => eqvL xs ys
  | _, _ => false
noncomputable def eqvL : List D → List D → Bool
  | [], [] => true
  | x :: xs, y :: ys => eqvD x y && eqvL xs ys
  | _, _ => false
end
mutual
noncomputable def plain : Nat → D → Bool
  | _, .non => true
  | _, .bl _ => true
  | _, .int _ => true
  | _, .str x => x.cps.all (· < 0x110000)
  | k + 1, .tup ds => plains k ds
  | k + 1, .lst ds => plains k ds
  | _, _ => false
noncomputable def plains : Nat → List D → Bool
  | _, [] => true
  | k, d :: ds => plain k d && plains k ds
end
mutual
theorem plain_py : ∀ {k : Nat} {d : D}, plain k d = true → ∃ p, toPy d = some p ∧ p.canLay0 = true ∧ p.depth ≤ k
  | _, .non, _ => ⟨.none, rfl, by simp [PyData.canLay0], by simp [PyData.depth]⟩
  | _, .bl b, _ => ⟨.bool b, rfl, by simp [PyData.canLay0], by simp [PyData.depth]⟩
  | _, .int i, _ => ⟨.int i, rfl, by simp [PyData.canLay0], by simp [PyData.depth]⟩
  | _, .str x, h => ⟨.str x, rfl, by rw [PyData.canLay0]; exact h, by simp [PyData.depth]⟩
  | k + 1, .tup ds, h => by
    obtain ⟨ps, e, c, d⟩ := plains_py (k := k) (ds := ds) (by simpa [plain] using h)
    exact ⟨.tuple ps, by simp [toPy, e], by simpa [PyData.canLay0] using c, by simp [PyData.depth]; omega⟩
  | k + 1, .lst ds, h => by
    obtain ⟨ps, e, c, d⟩ := plains_py (k := k) (ds := ds) (by simpa [plain] using h)
    exact ⟨.list ps, by simp [toPy, e], by simpa [PyData.canLay0] using c, by simp [PyData.depth]; omega⟩
  | 0, .tup _, h => by simp [plain] at h
  | 0, .lst _, h => by simp [plain] at h
  | 0, .dK _, h => by simp [plain] at h
  | _ + 1, .dK _, h => by simp [plain] at h
  | 0, .dT _, h => by simp [plain] at h
  | _ + 1, .dT _, h => by simp [plain] at h
  | 0, .ins _ _, h => by simp [plain] at h
  | _ + 1, .ins _ _, h => by simp [plain] at h
  | 0, .scr _, h => by simp [plain] at h
  | _ + 1, .scr _, h => by simp [plain] at h
theorem plains_py : ∀ {k : Nat} {ds : List D}, plains k ds = true → ∃ ps, toPys ds = some ps ∧ PyData.canLayAll0 ps = true ∧ PyData.depthAll ps ≤ k
  | _, [], _ => ⟨[], rfl, by simp [PyData.canLayAll0], by simp [PyData.depthAll]⟩
  | k, d :: ds, h => by
    simp only [plains, Bool.and_eq_true] at h
    obtain ⟨p, e, c, l⟩ := plain_py h.1
    obtain ⟨ps, es, cs, ls⟩ := plains_py h.2
    exact ⟨p :: ps, by simp [toPys, e, es], by simp [PyData.canLayAll0, c, cs], by simp [PyData.depthAll]; omega⟩
end
mutual
theorem eqv_py : ∀ {a b : D} {p q : PyData}, toPy a = some p → toPy b = some q → PyData.eqv p q = eqvD a b := by
  intro a b p q h1 h2
  cases a <;> cases b <;> simp [toPy] at h1 h2 <;> first
    | (subst h1; subst h2; simp [PyData.eqv, eqvD]; done)
    | (obtain ⟨ps, e1, rfl⟩ := h1; obtain ⟨qs, e2, rfl⟩ := h2; simp [PyData.eqv, eqvD]; done)
    | (obtain ⟨ps, e1, rfl⟩ := h1; obtain ⟨qs, e2, rfl⟩ := h2; simp only [PyData.eqv, eqvD]; first | rfl | exact eqvs_py e1 e2)
    | (obtain ⟨ps, e1, rfl⟩ := h1; subst h2; simp [PyData.eqv, eqvD]; done)
    | (obtain ⟨ps, e1, rfl⟩ := h2; subst h1; simp [PyData.eqv, eqvD]; done)
theorem eqvs_py : ∀ {as bs : List D} {ps qs : List PyData}, toPys as = some ps → toPys bs = some qs → PyData.eqvAll ps qs = eqvL as bs
  | [], [], _, _, h1, h2 => by simp [toPys] at h1 h2; subst h1; subst h2; rfl
  | a :: as, [], ps, qs, h1, h2 => by
    simp [toPys] at h1 h2
    split at h1
    · cases h1; subst h2; rfl
    · cases h1
  | [], b :: bs, ps, qs, h1, h2 => by
    simp [toPys] at h1 h2
    split at h2
    · cases h2; subst h1; rfl
    · cases h2
  | a :: as, b :: bs, ps, qs, h1, h2 => by
    simp [toPys] at h1 h2
    split at h1
    · rename_i p1 p2 ha has
      split at h2
      · rename_i q1 q2 hb hbs
        cases h1; cases h2
        simp only [PyData.eqvAll, eqvL]
        rw [eqv_py ha hb, eqvs_py has hbs]
      · cases h2
    · cases h1
end
theorem fEq_plain {k l : Nat} {a b : D} (h1 : plain k a = true) (h2 : plain l b = true) (hk : k ≤ 64 := by decide) (hl : l ≤ 64 := by decide) : fEq a b = some (eqvD a b) := by
  obtain ⟨p, e1, c1, d1⟩ := plain_py h1
  obtain ⟨q, e2, c2, d2⟩ := plain_py h2
  have key : fEqD a b = some (eqvD a b) := by
    unfold fEqD
    rw [e1, e2]
    have s1 : SeqAt.shaped p = true := by simp [SeqAt.shaped, c1]; omega
    have s2 : SeqAt.shaped q = true := by simp [SeqAt.shaped, c2]; omega
    simp only [s1, s2, and_self, if_true]
    rw [eqv_py e1 e2]
  unfold fEq
  split
  · simp [eqvD, Bool.beq_eq_decide_eq]
  · simp [eqvD]
    exact (Bool.beq_eq_decide_eq _ _).symm
  · simp [eqvD, Bool.beq_eq_decide_eq]
  · exact key
theorem fNe_plain {k l : Nat} {a b : D} (h1 : plain k a = true) (h2 : plain l b = true) (hk : k ≤ 64 := by decide) (hl : l ≤ 64 := by decide) : fNe a b = some (!eqvD a b) := by
  unfold fNe
  rw [fEq_plain h1 h2 hk hl]
  rfl
end MR
namespace MR
open PySem L2
noncomputable abbrev rq (x : Rat) : D := .tup [.int x.num, .int x.den]
structure Bt (k : Nat) (x : Rat) : Prop where
  n : x.num.natAbs < 2 ^ k
  d : x.den < 2 ^ k
theorem Bt.mono {k l : Nat} {x : Rat} (h : Bt k x) (e : k ≤ l) : Bt l x := ⟨Nat.lt_of_lt_of_le h.n (Nat.pow_le_pow_right (by decide) e), Nat.lt_of_lt_of_le h.d (Nat.pow_le_pow_right (by decide) e)⟩
theorem plain_rq {x : Rat} : plain 1 (rq x) = true := rfl
theorem eqvD_rq {x y : Rat} : eqvD (rq x) (rq y) = decide (x = y) := by
  simp only [eqvD, eqvL, Bool.and_true]
  by_cases h : x = y
  · subst h; simp
  · rw [decide_eq_false h]
    cases h1 : x.num == y.num with
    | false => rfl
    | true =>
      cases h2 : (x.den : Int) == (y.den : Int) with
      | false => rfl
      | true =>
        exfalso
        refine h (Rat.ext (by simpa using h1) ?_)
        have : (x.den : Int) = y.den := by simpa using h2
        omega
@[simp] theorem fEq_rq {x y : Rat} : fEq (rq x) (rq y) = some (decide (x = y)) := by rw [fEq_plain plain_rq plain_rq, eqvD_rq]
@[simp] theorem fNe_rq {x y : Rat} : fNe (rq x) (rq y) = some (!decide (x = y)) := by rw [fNe_plain plain_rq plain_rq, eqvD_rq]
theorem den_pos (x : Rat) : 0 < (x.den : Int) := by have := x.den_nz; omega
theorem divInt_n {n d : Int} (hd : d ≠ 0) : (Rat.divInt n d).num.natAbs ≤ n.natAbs := by
  rw [Rat.num_divInt]
  rw [Int.natAbs_ediv_of_dvd (Int.dvd_trans (Int.gcd_dvd_right ..) (Int.dvd_mul_left ..))]
  refine Nat.le_trans (Nat.div_le_self _ _) ?_
  rw [Int.natAbs_mul, Int.natAbs_sign_of_ne_zero hd]
  omega
theorem divInt_d {n d : Int} (hd : d ≠ 0) : (Rat.divInt n d).den ≤ d.natAbs := by
  rw [Rat.den_divInt, if_neg hd]
  exact Nat.div_le_self _ _
theorem Bt.of {n d : Int} {k : Nat} (hd : d ≠ 0) (h1 : n.natAbs < 2 ^ k) (h2 : d.natAbs < 2 ^ k) : Bt k (Rat.divInt n d) := ⟨Nat.lt_of_le_of_lt (divInt_n hd) h1, Nat.lt_of_le_of_lt (divInt_d hd) h2⟩
theorem mul_bits {a b k l : Nat} (h1 : a < 2 ^ k) (h2 : b < 2 ^ l) : a * b < 2 ^ (k + l) := by
  rw [Nat.pow_add]
  exact Nat.mul_lt_mul'' h1 h2
theorem mul_bitsI {a b : Int} {k l : Nat} (h1 : a.natAbs < 2 ^ k) (h2 : b.natAbs < 2 ^ l) : (a * b).natAbs < 2 ^ (k + l) := by
  rw [Int.natAbs_mul]
  exact mul_bits h1 h2
theorem add_bitsI {a b : Int} {k : Nat} (h1 : a.natAbs < 2 ^ k) (h2 : b.natAbs < 2 ^ k) : (a + b).natAbs < 2 ^ (k + 1) := by
  rw [Nat.pow_succ]
  omega
theorem sub_bitsI {a b : Int} {k : Nat} (h1 : a.natAbs < 2 ^ k) (h2 : b.natAbs < 2 ^ k) : (a - b).natAbs < 2 ^ (k + 1) := by
  rw [Nat.pow_succ]
  omega
theorem add_eqD (x y : Rat) : x + y = Rat.divInt (x.num * y.den + y.num * x.den) (x.den * y.den) := by
  rw [Rat.add_def', ← Rat.divInt_ofNat, Int.natCast_mul]
theorem sub_eqD (x y : Rat) : x - y = Rat.divInt (x.num * y.den - y.num * x.den) (x.den * y.den) := by
  rw [Rat.sub_def', ← Rat.divInt_ofNat, Int.natCast_mul]
theorem mul_eqD (x y : Rat) : x * y = Rat.divInt (x.num * y.num) (x.den * y.den) := by
  rw [Rat.mul_def', ← Rat.divInt_ofNat, Int.natCast_mul]
theorem div_eqD (x y : Rat) : x / y = Rat.divInt (x.num * y.den) (x.den * y.num) := by
  rw [Rat.div_def, Rat.inv_def]
  conv => lhs; lhs; rw [← Rat.num_divInt_den x]
  rw [Rat.divInt_mul_divInt]
theorem dn0 (x y : Rat) : (x.den : Int) * y.den ≠ 0 := Int.mul_ne_zero (by have := den_pos x; omega) (by have := den_pos y; omega)
theorem Bt.addl {k l : Nat} {x y : Rat} (h1 : Bt k x) (h2 : Bt l y) : Bt (k + l + 1) (x + y) := by
  rw [add_eqD]
  refine .of (dn0 x y) (add_bitsI (mul_bitsI h1.n (by simpa using h2.d)) ?_) (Nat.lt_trans (mul_bitsI (by simpa using h1.d) (by simpa using h2.d)) (Nat.pow_lt_pow_right (by decide) (by omega)))
  rw [Nat.add_comm k l]
  exact mul_bitsI h2.n (by simpa using h1.d)
theorem Bt.subl {k l : Nat} {x y : Rat} (h1 : Bt k x) (h2 : Bt l y) : Bt (k + l + 1) (x - y) := by
  rw [sub_eqD]
  refine .of (dn0 x y) (sub_bitsI (mul_bitsI h1.n (by simpa using h2.d)) ?_) (Nat.lt_trans (mul_bitsI (by simpa using h1.d) (by simpa using h2.d)) (Nat.pow_lt_pow_right (by decide) (by omega)))
  rw [Nat.add_comm k l]
  exact mul_bitsI h2.n (by simpa using h1.d)
theorem Bt.add {k : Nat} {x y : Rat} (h1 : Bt k x) (h2 : Bt k y) : Bt (k + k + 1) (x + y) := h1.addl h2
theorem Bt.sub {k : Nat} {x y : Rat} (h1 : Bt k x) (h2 : Bt k y) : Bt (k + k + 1) (x - y) := h1.subl h2
theorem Bt.mul {k l : Nat} {x y : Rat} (h1 : Bt k x) (h2 : Bt l y) : Bt (k + l) (x * y) := by
  rw [mul_eqD]
  exact .of (dn0 x y) (mul_bitsI h1.n h2.n) (mul_bitsI (by simpa using h1.d) (by simpa using h2.d))
theorem Bt.div {k l : Nat} {x y : Rat} (h1 : Bt k x) (h2 : Bt l y) (h0 : y ≠ 0) : Bt (k + l) (x / y) := by
  rw [div_eqD]
  have : y.num ≠ 0 := fun z => h0 (Rat.num_eq_zero.mp z)
  exact .of (Int.mul_ne_zero (by have := den_pos x; omega) this) (mul_bitsI h1.n (by simpa using h2.d)) (mul_bitsI (by simpa using h1.d) h2.n)
theorem gcd_loop (x y : D) (k : Nat) : ∀ a b : Nat, b < k → whileN (mCmpT fGt (mVar 3) (mC (.int 0))) RV.b__law_low_L0 k [x, y, .int a, .int b] = .nx [x, y, .int (Nat.gcd a b), .int 0] := by
  induction k with
  | zero => intro a b h; omega
  | succ k ih =>
    intro a b h
    rw [whileN_succ]
    by_cases hb : b = 0
    · subst hb
      simp
    · have h2 : CModX (a : Int) (b : Int) := by unfold CModX; omega
      have h3 : ((a : Int).fmod (b : Int)) = ((a % b : Nat) : Int) := by
        rw [Int.fmod_eq_emod_of_nonneg _ (by omega)]; simp
      have h4 : a % b < b := Nat.mod_lt _ (by omega)
      have e : RV.b__law_low_L0 [x, y, .int a, .int b] = .nx [x, y, .int b, .int ((a % b : Nat) : Int)] := by
        unfold RV.b__law_low_L0
        simp [h2, h3]
      have t : mCmpT fGt (mVar 3) (mC (.int 0)) [x, y, .int a, .int b] = .ok true [x, y, .int a, .int b] := by simp; omega
      rw [t, wh_t, e, loop_nx]
      rw [ih b (a % b) (by omega), Nat.gcd_comm a b, Nat.gcd_rec b a, Nat.gcd_comm b (a % b)]
theorem gcd_loop2 (k : Nat) : ∀ (a : Int) (b : Nat), b < k → ∃ g : Int, whileN (mCmpT fNe (mVar 1) (mC (.int 0))) RV.b_common_divisor_L0 k [.int a, .int b] = .nx [.int g, .int 0] ∧ g.natAbs = Int.gcd a b := by
  induction k with
  | zero => intro a b h; omega
  | succ k ih =>
    intro a b h
    rw [whileN_succ]
    by_cases hb : b = 0
    · subst hb
      exact ⟨a, by simp, by simp⟩
    · have h2 : CModX a (b : Int) := by unfold CModX; omega
      have h5 : 0 ≤ a % (b : Int) := Int.emod_nonneg _ (by omega)
      have h4 : a % (b : Int) < b := Int.emod_lt_of_pos _ (by omega)
      obtain ⟨m, hm⟩ := Int.eq_ofNat_of_zero_le h5
      have h3 : a.fmod (b : Int) = m := by
        rw [Int.fmod_eq_emod_of_nonneg _ (by omega)]; exact hm
      have e : RV.b_common_divisor_L0 [.int a, .int b] = .nx [.int b, .int m] := by
        unfold RV.b_common_divisor_L0
        simp [h2, h3]
      have t : mCmpT fNe (mVar 1) (mC (.int 0)) [.int a, .int b] = .ok true [.int a, .int b] := by simp; omega
      rw [t, wh_t, e, loop_nx]
      obtain ⟨g, h6, h7⟩ := ih b m (by omega)
      refine ⟨g, h6, ?_⟩
      rw [h7, ← hm, Int.gcd_comm a]
      have e2 : a = a % (b : Int) + (b : Int) * (a / b) := by have := Int.emod_add_mul_ediv a b; omega
      conv => rhs; rw [e2]
      exact (Int.gcd_add_mul_left_right _ _ _).symm
theorem divx_g {i : Int} {n d : Int} (hd : d ≠ 0) (hi : i.natAbs < 2 ^ 13500) : CDivX i (Int.gcd n d : Int) := by
  have g0 : 0 < Int.gcd n d := Int.gcd_pos_of_ne_zero_right n hd
  exact divx2 (by omega) hi
theorem fdiv_g (i n d : Int) : i.fdiv (Int.gcd n d : Int) = i / (Int.gcd n d : Int) := Int.fdiv_eq_ediv_of_nonneg _ (by omega)
theorem rq_divInt {n d : Int} (hd : 0 < d) : rq (Rat.divInt n d) = .tup [.int (n / (Int.gcd n d : Int)), .int (d / (Int.gcd n d : Int))] := by
  unfold rq
  have h0 : d ≠ 0 := by omega
  rw [Rat.num_divInt, Rat.den_divInt, if_neg h0, Int.sign_eq_one_of_pos hd, Int.one_mul, Int.gcd_comm d n, Int.natCast_ediv]
  rw [show ((d.natAbs : Nat) : Int) = d by omega]
theorem low_eq {n d : Int} (hd : 0 < d) (hn : n.natAbs < 2 ^ 13500) (hs : d.natAbs < 2 ^ 13500) : RV.m__law_low [.int n, .int d] = .ok (rq (Rat.divInt n d)) := by
  have lt0 : ¬ d < 0 := by omega
  have h0 : d ≠ 0 := by omega
  have L := gcd_loop (.int n) (.int d) (d.natAbs + 1) n.natAbs d.natAbs (by omega)
  unfold RV.m__law_low
  rw [mDef_eq]
  unfold RV.b__law_low
  simp [D.nat, L, lt0]
  rw [show n.natAbs.gcd d.natAbs = Int.gcd n d from rfl]
  simp only [divx_g h0 hn, divx_g h0 hs, fdiv_g, if_true, rr_of_some, cons1_ok, cons2_ok, rq_divInt hd]
  simp [divx_g h0 hn, divx_g h0 hs, fdiv_g]
theorem ratio_eq {n d : Int} (hd : 0 < d) (hn : n.natAbs < 2 ^ 13500) (hs : d.natAbs < 2 ^ 13500) : RV.m_ratio [.int n, .int d] = .ok (rq (Rat.divInt n d)) := by
  have lt0 : ¬ d < 1 := by omega
  have h0 : d ≠ 0 := by omega
  obtain ⟨g, L, hg⟩ := gcd_loop2 (d.natAbs + 1) n d.natAbs (by omega)
  have ed : ((d.natAbs : Nat) : Int) = d := by omega
  rw [ed] at L hg
  have ig : ∀ i : Int, RV.m_is_integer [.int i] = .ok (.bl true) := fun i => by
    unfold RV.m_is_integer
    rw [mDef_eq]
    unfold RV.b_is_integer
    simp [fNotV]
  have cd : RV.m_common_divisor [.int n, .int d] = .ok (.int (Int.gcd n d)) := by
    unfold RV.m_common_divisor
    rw [mDef_eq]
    unfold RV.b_common_divisor
    simp [D.nat, L, hg]
  unfold RV.m_ratio
  rw [mDef_eq]
  unfold RV.b_ratio
  simp [ig, cd, lt0, divx_g h0 hn, divx_g h0 hs, fdiv_g]
  have e := rq_divInt (n := n) hd
  simp only [rq, D.tup.injEq, List.cons.injEq, D.int.injEq, and_true] at e
  exact ⟨e.1.symm, e.2.symm⟩
theorem cell_eq (ns : List Int) (k : Nat) (hk : k ≤ 1000) : RV.m__law_cell [.scr ns, .int k] = .ok (.int (ns.getD k (13 * k + 2))) := by
  unfold RV.m__law_cell
  rw [mDef_eq]
  unfold RV.b__law_cell
  by_cases h : k < ns.length
  · simp [h, atI_nat']
  · have h3 : CMulX 13 k := mulx (a := 10) (b := 10) (by decide) (by omega)
    simp [h, h3]
theorem modx {i j : Int} (h : j ≠ 0 := by decide) : CModX i j := h
theorem fmod_lt {i j : Int} (h : 0 < j) : 0 ≤ i.fmod j ∧ i.fmod j < j := by
  rw [Int.fmod_eq_emod_of_nonneg i (by omega)]
  exact ⟨Int.emod_nonneg _ (by omega), Int.emod_lt_of_pos _ h⟩
theorem p2 {k l : Nat} {n : Nat} (h : n < 2 ^ k) (e : k ≤ l := by decide) : n < 2 ^ l := Nat.lt_of_lt_of_le h (Nat.pow_le_pow_right (by decide) e)
section
variable {k l : Nat} {x y : Rat}
theorem mx {i j : Int} (h1 : i.natAbs < 2 ^ k) (h2 : j.natAbs < 2 ^ l) (h : k + l ≤ 133000000) : CMulX i j := by
  refine mulx (a := k + 1) (b := l + 1) ?_ ?_ (by omega) (by omega) (by omega)
  · exact Nat.lt_trans h1 (Nat.pow_lt_pow_right (by decide) (by omega))
  · exact Nat.lt_trans h2 (Nat.pow_lt_pow_right (by decide) (by omega))
theorem nd (h : Bt k x) : ((x.den : Int)).natAbs < 2 ^ k := by simpa using h.d
theorem den_mul_pos : 0 < (x.den : Int) * y.den := Int.mul_pos (den_pos x) (den_pos y)
theorem sub_eq (h1 : Bt k x) (h2 : Bt l y) (h : k + l ≤ 13400 := by decide) : RV.m_sub [rq x, rq y] = .ok (rq (x - y)) := by
  unfold RV.m_sub
  rw [mDef_eq]
  unfold RV.b_sub
  have m1 := mx h1.n (nd h2) (by omega)
  have m2 := mx h2.n (nd h1) (by omega)
  have m3 := mx (nd h1) (nd h2) (by omega)
  have b1 := mul_bitsI h1.n (nd h2)
  have b2 := mul_bitsI h2.n (nd h1)
  have b3 := mul_bitsI (nd h1) (nd h2)
  have q1 := p2 b1 (l := 13499) (by omega)
  have q2 := p2 b2 (l := 13499) (by omega)
  have e := ratio_eq (n := x.num * y.den - y.num * x.den) (d := x.den * y.den) den_mul_pos (sub_bitsI q1 q2) (p2 b3 (by omega))
  simp [m1, m2, m3, e, sub_eqD]
theorem times_eq (h1 : Bt k x) (h2 : Bt l y) (h : k + l ≤ 13400 := by decide) : RV.m_times [rq x, rq y] = .ok (rq (x * y)) := by
  unfold RV.m_times
  rw [mDef_eq]
  unfold RV.b_times
  have m1 := mx h1.n h2.n (by omega)
  have m3 := mx (nd h1) (nd h2) (by omega)
  have b1 := mul_bitsI h1.n h2.n
  have b3 := mul_bitsI (nd h1) (nd h2)
  have e := ratio_eq (n := x.num * y.num) (d := x.den * y.den) den_mul_pos (p2 b1 (by omega)) (p2 b3 (by omega))
  simp [m1, m3, e, mul_eqD]
theorem over_eq (h1 : Bt k x) (h2 : Bt l y) (h0 : y ≠ 0) (h : k + l ≤ 13400 := by decide) : RV.m_over [rq x, rq y] = .ok (rq (x / y)) := by
  have hn : y.num ≠ 0 := fun z => h0 (Rat.num_eq_zero.mp z)
  unfold RV.m_over
  rw [mDef_eq]
  unfold RV.b_over
  have m1 := mx h1.n (nd h2) (by omega)
  have m2 := mx (nd h1) h2.n (by omega)
  have b1 := mul_bitsI h1.n (nd h2)
  have b3 := mul_bitsI (nd h1) h2.n
  by_cases hy : y.num < 0
  · have d0 : (x.den : Int) * y.num < 0 := Int.mul_neg_of_pos_of_neg (den_pos x) hy
    have e := ratio_eq (n := -(x.num * y.den)) (d := -(x.den * y.num)) (by omega) (by simpa using p2 b1 (by omega)) (by simpa using p2 b3 (by omega))
    rw [Rat.neg_divInt_neg] at e
    simp [hn, m1, m2, d0, e, div_eqD]
  · have d0 : ¬ (x.den : Int) * y.num < 0 := by
      have := Int.mul_pos (den_pos x) (show 0 < y.num by omega)
      omega
    have e := ratio_eq (n := x.num * y.den) (d := x.den * y.num) (Int.mul_pos (den_pos x) (by omega)) (p2 b1 (by omega)) (p2 b3 (by omega))
    simp [hn, m1, m2, d0, e, div_eqD]
theorem is_ratio_eq (h1 : x.num.natAbs < 2 ^ 13500) (h2 : x.den < 2 ^ 13500) : RV.m__law_is_ratio [rq x] = .ok (.bl true) := by
  unfold RV.m__law_is_ratio
  rw [mDef_eq]
  unfold RV.b__law_is_ratio
  have e := low_eq (n := x.num) (d := x.den) (den_pos x) h1 (by simpa using h2)
  rw [Rat.num_divInt_den] at e
  have p := den_pos x
  have d1 : (1 : Int) ≤ x.den := by omega
  simp [forL_cons, RV.b__law_is_ratio_L0, d1, e]
end
end MR
namespace MR
open PySem L2
section
variable {α : Type} {a b z : ME} {ma : MA} {ρ : List D} {d x y : D} {ds dd : List D} {e : Err} {i j c : Nat} {m f : Str} {g : MP} {gb : MPB} {sh : Sh}
noncomputable def RB.to (o : RB) (ρ : List D) (i : Nat) : RR D := match o with
  | .ok d d1 => .ok d (ρ.set i d1)
  | .exc e d1 => .exc e (ρ.set i d1)
  | .bad => .bad
@[simp] theorem bto_ok : (RB.ok d x).to ρ i = .ok d (ρ.set i x) := rfl
@[simp] theorem bto_exc : (RB.exc e x).to ρ i = .exc e (ρ.set i x) := rfl
@[simp] theorem bto_bad : RB.bad.to ρ i = .bad := rfl
end
end MR
namespace MR
open PySem L2
noncomputable def rql (xs : List Rat) : D := .lst (xs.map rq)
noncomputable def rqm (rows : List (List Rat)) : D := .lst (rows.map rql)
noncomputable def at0 (xs : List Rat) (i : Nat) : Rat := xs.getD i 0
noncomputable def row (rows : List (List Rat)) (i : Nat) : List Rat := rows.getD i []
noncomputable def Bts (k : Nat) (xs : List Rat) : Prop := ∀ x ∈ xs, Bt k x
theorem plains_map {α : Type} {k : Nat} {f : α → D} : ∀ {xs : List α}, (∀ x ∈ xs, plain k (f x) = true) → plains k (xs.map f) = true
  | [], _ => rfl
  | x :: xs, h => by
    simp only [List.map_cons, plains, Bool.and_eq_true]
    exact ⟨h x List.mem_cons_self, plains_map fun y hy => h y (List.mem_cons_of_mem _ hy)⟩
theorem plain_rql {xs : List Rat} : plain 2 (rql xs) = true := plains_map fun _ _ => rfl
theorem plain_rqm {rows : List (List Rat)} : plain 3 (rqm rows) = true := plains_map fun _ _ => plain_rql
theorem eqvL_map {α : Type} [DecidableEq α] {f : α → D} (h : ∀ x y, eqvD (f x) (f y) = decide (x = y)) : ∀ {xs ys : List α}, eqvL (xs.map f) (ys.map f) = decide (xs = ys)
  | [], [] => rfl
  | [], _ :: _ => rfl
  | _ :: _, [] => rfl
  | x :: xs, y :: ys => by
    simp only [List.map_cons, eqvL, h, eqvL_map h]
    by_cases e : x = y
    · subst e
      by_cases e2 : xs = ys
      · subst e2; simp
      · simp [e2]
    · simp [e]
theorem eqvD_rql {xs ys : List Rat} : eqvD (rql xs) (rql ys) = decide (xs = ys) := by
  unfold rql
  simp only [eqvD]
  exact eqvL_map fun _ _ => eqvD_rq
theorem eqvD_rqm {xs ys : List (List Rat)} : eqvD (rqm xs) (rqm ys) = decide (xs = ys) := by
  unfold rqm
  simp only [eqvD]
  exact eqvL_map fun _ _ => eqvD_rql
theorem fEq_rql {xs ys : List Rat} : fEq (rql xs) (rql ys) = some (decide (xs = ys)) := by rw [fEq_plain plain_rql plain_rql, eqvD_rql]
theorem fNe_rql {xs ys : List Rat} : fNe (rql xs) (rql ys) = some (!decide (xs = ys)) := by rw [fNe_plain plain_rql plain_rql, eqvD_rql]
theorem fEq_rqm {xs ys : List (List Rat)} : fEq (rqm xs) (rqm ys) = some (decide (xs = ys)) := by rw [fEq_plain plain_rqm plain_rqm, eqvD_rqm]
theorem atI_map {α : Type} {f : α → D} {xs : List α} {n : Nat} (h : n < xs.length) : atI (xs.map f) (n : Int) = some (f xs[n]) := by
  rw [atI_nat', List.getElem?_map, List.getElem?_eq_getElem h]
  rfl
theorem atI_rq {xs : List Rat} {i : Nat} (h : i < xs.length) : atI (xs.map rq) (i : Int) = some (rq (at0 xs i)) := by
  unfold at0
  rw [atI_map h, List.getD_eq_getElem?_getD, List.getElem?_eq_getElem h]
  rfl
@[simp] theorem len_rql {xs : List Rat} : fLen [rql xs] = some (.int xs.length) := by unfold rql; simp
@[simp] theorem len_rqm {xs : List (List Rat)} : fLen [rqm xs] = some (.int xs.length) := by unfold rqm; simp
@[simp] theorem items_rql {xs : List Rat} : itemsOf (rql xs) = some (xs.map rq) := rfl
@[simp] theorem items_rqm {xs : List (List Rat)} : itemsOf (rqm xs) = some (xs.map rql) := rfl
@[simp] theorem asLst_rql {xs : List Rat} : asLst (rql xs) = some (xs.map rq) := rfl
@[simp] theorem asLst_rqm {xs : List (List Rat)} : asLst (rqm xs) = some (xs.map rql) := rfl
@[simp] theorem listOf_rql {xs : List Rat} : fListOf [rql xs] = some (rql xs) := rfl
@[simp] theorem truth_rql {xs : List Rat} : truth (rql xs) = some (!xs.isEmpty) := by cases xs <;> rfl
@[simp] theorem isi_rql {xs : List Rat} : fIsi "list" (rql xs) = some (.bl true) := isi_lst_list
theorem ix_rql {xs : List Rat} {i : Nat} (h : i < xs.length) : fIx (rql xs) (.int i) = some (rq (at0 xs i)) := atI_rq h
theorem ix_rqm {xs : List (List Rat)} {i : Nat} (h : i < xs.length) : fIx (rqm xs) (.int i) = some (rql (row xs i)) := by
  show atI (xs.map rql) (i : Int) = _
  unfold row
  rw [atI_map h, List.getD_eq_getElem?_getD, List.getElem?_eq_getElem h]
  rfl
theorem rql_two {a b : Rat} : D.lst [rq a, rq b] = rql [a, b] := rfl
theorem rql_snoc {xs : List Rat} {y : Rat} : D.lst (xs.map rq ++ [rq y]) = rql (xs ++ [y]) := by simp [rql]
theorem rql_range {n : Nat} {f : Nat → Rat} : D.lst ((List.range n).map fun i => rq (f i)) = rql ((List.range n).map f) := by unfold rql; rw [List.map_map]; rfl
theorem rql_map {α : Type} {xs : List α} {f : α → Rat} : D.lst (xs.map fun x => rq (f x)) = rql (xs.map f) := by unfold rql; rw [List.map_map]; rfl
theorem rqm_map {α : Type} {xs : List α} {f : α → List Rat} : D.lst (xs.map fun x => rql (f x)) = rqm (xs.map f) := by unfold rqm; rw [List.map_map]; rfl
theorem ilist_map {α : Type} {n : Nat} {f : D → α} {g : Nat → α} (h : ∀ i, i < n → f (.int (i : Int)) = g i) : (ilist 0 n).map f = (List.range n).map g := by
  unfold ilist
  rw [List.map_map]
  refine List.map_congr_left fun i hi => ?_
  show f (.int (0 + (i : Int))) = g i
  rw [Int.zero_add]
  exact h i (List.mem_range.mp hi)
theorem small_eq (c : Int) : ∃ x : Rat, RV.m__law_small [.int c] = .ok (rq x) ∧ Bt 4 x ∧ ∃ n d : Int, x = Rat.divInt n d ∧ 1 ≤ d ∧ d ≤ 9 ∧ n.natAbs ≤ 6 := by
  have h1 := @fmod_lt c 13 (by decide)
  have h3 := @fmod_lt (c.fdiv 60) 3 (by decide)
  have e3 : c.fdiv 60 |>.fmod 3 |> fun i => i = 0 ∨ i = 1 ∨ i = 2 := by show _ ∨ _ ∨ _; omega
  have hd : CDivX c 13 := divx (b := 4) (by decide) (by decide)
  have hd2 : CDivX c 60 := divx (b := 6) (by decide) (by decide)
  have hm : ∀ i : Int, CModX i 13 ∧ CModX i 3 ∧ CModX i 1 ∧ CModX i 4 ∧ CModX i 9 := fun i => by unfold CModX; decide
  have go : ∀ q : Int, 0 ≤ q → q < 9 → ∃ x : Rat, RV.m__law_low [.int (c.fmod 13 - 6), .int (1 + q)] = .ok (rq x) ∧ Bt 4 x ∧ ∃ n d : Int, x = Rat.divInt n d ∧ 1 ≤ d ∧ d ≤ 9 ∧ n.natAbs ≤ 6 := fun q q0 q9 => by
    have b1 : (c.fmod 13 - 6).natAbs < 2 ^ 4 := by omega
    have b2 : (1 + q).natAbs < 2 ^ 4 := by omega
    exact ⟨_, low_eq (by omega) (p2 b1) (p2 b2), .of (by omega) b1 b2, _, _, rfl, by omega, by omega, by omega⟩
  unfold RV.m__law_small
  simp only [mDef_eq]
  unfold RV.b__law_small
  rcases e3 with e | e | e
  · obtain ⟨x, h, b⟩ := go 0 (by decide) (by decide)
    have h : RV.m__law_low [.int (c.fmod 13 - 6), .int 1] = .ok (rq x) := h
    exact ⟨x, by simp [hd, hd2, hm, e, h], b⟩
  · obtain ⟨x, h, b⟩ := go ((c.fdiv 13).fmod 4) (fmod_lt (by decide)).1 (by have := @fmod_lt (c.fdiv 13) 4 (by decide); omega)
    exact ⟨x, by simp [hd, hd2, hm, e, h], b⟩
  · obtain ⟨x, h, b⟩ := go ((c.fdiv 13).fmod 9) (fmod_lt (by decide)).1 (by have := @fmod_lt (c.fdiv 13) 9 (by decide); omega)
    exact ⟨x, by simp [hd, hd2, hm, e, h], b⟩
noncomputable def smallR (c : Int) : Rat := (small_eq c).choose
theorem small_is (c : Int) : RV.m__law_small [.int c] = .ok (rq (smallR c)) := (small_eq c).choose_spec.1
theorem small_form (c : Int) : ∃ n d : Int, smallR c = Rat.divInt n d ∧ 1 ≤ d ∧ d ≤ 9 ∧ n.natAbs ≤ 6 := (small_eq c).choose_spec.2.2
noncomputable def cellZ (ns : List Int) (k : Nat) : Int := ns.getD k (13 * k + 2)
theorem cell_is (ns : List Int) (k : Nat) (hk : k ≤ 1000) : RV.m__law_cell [.scr ns, .int k] = .ok (.int (cellZ ns k)) := cell_eq ns k hk
theorem sum_loop {k N : Nat} (hk : N * (k + 2) + 1 + k ≤ 13300) : ∀ (xs : List Rat) (j : Nat) (n d : Int) (l : D), Bts k xs → j + xs.length ≤ N → 0 < d → n.natAbs < 2 ^ (j * (k + 2) + 1) → d.natAbs < 2 ^ (j * (k + 2) + 1) →
    ∃ n' d' : Int, forL (bName 3) RV.b__law_sum_L0 (xs.map rq) [l, .int n, .int d, .non] = .nx [l, .int n', .int d', .non] ∧ 0 < d' ∧ Rat.divInt n' d' = Rat.divInt n d + xs.sum ∧ n'.natAbs < 2 ^ ((j + xs.length) * (k + 2) + 1) ∧ d'.natAbs < 2 ^ ((j + xs.length) * (k + 2) + 1)
  | [], j, n, d, l, _, _, hd, hn, hs => ⟨n, d, rfl, hd, by simp [Rat.add_zero], by simpa using hn, by simpa using hs⟩
  | x :: xs, j, n, d, l, hx, hl, hd, hn, hs => by
    have bx := hx x List.mem_cons_self
    have px := den_pos x
    simp only [List.length_cons] at hl
    have l1 : j * (k + 2) ≤ N * (k + 2) := Nat.mul_le_mul (by omega) (Nat.le_refl _)
    have m1 : CMulX n x.den := mx hn (nd bx) (by omega)
    have m2 : CMulX x.num d := mx bx.n hs (by omega)
    have m3 : CMulX d x.den := mx hs (nd bx) (by omega)
    have z1 := mul_bitsI hn (nd bx)
    have z2 := p2 (l := j * (k + 2) + 1 + k) (mul_bitsI bx.n hs) (by omega)
    have z3 := mul_bitsI hs (nd bx)
    have e : (j + 1) * (k + 2) + 1 = j * (k + 2) + 1 + k + 1 + 1 := by rw [Nat.add_mul]; omega
    have q1 : (n * x.den + x.num * d).natAbs < 2 ^ ((j + 1) * (k + 2) + 1) := p2 (add_bitsI z1 z2) (by omega)
    have q3 : (d * x.den).natAbs < 2 ^ ((j + 1) * (k + 2) + 1) := p2 z3 (by omega)
    have dp : 0 < d * (x.den : Int) := Int.mul_pos hd px
    obtain ⟨n', d', h1, h2, h3, h4, h5⟩ := sum_loop hk xs (j + 1) _ _ l (fun y hy => hx y (List.mem_cons_of_mem _ hy)) (by omega) dp q1 q3
    refine ⟨n', d', ?_, h2, ?_, by simpa [Nat.add_assoc, Nat.add_comm 1] using h4, by simpa [Nat.add_assoc, Nat.add_comm 1] using h5⟩
    · simp only [List.map_cons]
      rw [forL_cons]
      unfold RV.b__law_sum_L0
      simp [m1, m2, m3]
      unfold RV.b__law_sum_L0 at h1
      exact h1
    · rw [h3, List.sum_cons, ← Rat.add_assoc]
      congr 1
      have e2 : x = Rat.divInt x.num x.den := (Rat.num_divInt_den x).symm
      conv => rhs; rhs; rw [e2]
      rw [Rat.divInt_add_divInt _ _ (by omega) (by omega)]
theorem sum_eqN {k : Nat} {xs : List Rat} (h : Bts k xs) (hk : xs.length * (k + 2) + 1 + k ≤ 13300) : RV.m__law_sum [rql xs] = .ok (rq xs.sum) ∧ Bt (xs.length * (k + 2) + 1) xs.sum := by
  obtain ⟨n, d, h1, h2, h3, h4, h5⟩ := sum_loop hk xs 0 0 1 (rql xs) h (by omega) (by decide) (by simp) (by simp)
  rw [Nat.zero_add] at h4 h5
  have e := low_eq h2 (p2 h4 (by omega)) (p2 h5 (by omega))
  have e0 : Rat.divInt 0 1 + xs.sum = xs.sum := by rw [Rat.zero_divInt, Rat.zero_add]
  rw [e0] at h3
  rw [h3] at e
  refine ⟨?_, ?_⟩
  · unfold RV.m__law_sum
    rw [mDef_eq]
    unfold RV.b__law_sum
    simp [h1, e]
  · rw [← h3]
    exact .of (by omega) h4 h5
theorem small_bits {a k : Nat} (ha : a ≤ 16) (hk : k ≤ 700) : a * (k + 2) + 1 + k ≤ 13300 := by
  have : a * (k + 2) ≤ 16 * 702 := Nat.mul_le_mul ha (by omega)
  omega
theorem sum_eq {k : Nat} {xs : List Rat} (h : Bts k xs) (hk : k ≤ 700 := by decide) (hl : xs.length ≤ 16 := by simp) : RV.m__law_sum [rql xs] = .ok (rq xs.sum) := (sum_eqN h (small_bits hl hk)).1
theorem ltimes_eq {k l : Nat} {x y : Rat} (h1 : Bt k x) (h2 : Bt l y) (h : k + l ≤ 13400 := by decide) : RV.m__law_times [rq x, rq y] = .ok (rq (x * y)) := by
  unfold RV.m__law_times
  rw [mDef_eq]
  unfold RV.b__law_times
  have m1 := mx h1.n h2.n (by omega)
  have m3 := mx (nd h1) (nd h2) (by omega)
  have b1 := mul_bitsI h1.n h2.n
  have b3 := mul_bitsI (nd h1) (nd h2)
  have e := low_eq (n := x.num * y.num) (d := x.den * y.den) den_mul_pos (p2 b1 (by omega)) (p2 b3 (by omega))
  simp [m1, m3, e, mul_eqD]
noncomputable def dot (r v : List Rat) : Rat := ((List.range v.length).map fun i => at0 r i * at0 v i).sum
noncomputable def mulv (rows : List (List Rat)) (v : List Rat) : List Rat := rows.map fun r => dot r v
theorem Bt.zero {k : Nat} (h : 0 < k) : Bt k 0 := ⟨Nat.two_pow_pos k, Nat.one_lt_two_pow (by omega)⟩
theorem Bts.at0 {k : Nat} {xs : List Rat} (h : Bts k xs) (i : Nat) (k0 : 0 < k := by decide) : Bt k (MR.at0 xs i) := by
  unfold MR.at0
  rw [List.getD_eq_getElem?_getD]
  cases q : xs[i]? with
  | none => exact .zero k0
  | some x => exact h x (List.mem_of_getElem? q)
theorem Bts.range {k n : Nat} {f : Nat → Rat} (h : ∀ i, i < n → Bt k (f i)) : Bts k ((List.range n).map f) := fun x hx => by
  obtain ⟨i, hi, rfl⟩ := List.mem_map.mp hx
  exact h i (List.mem_range.mp hi)
theorem lcL_from {α : Type} {a : ME} {b : MB} {μ : List Mode} {ρ : List D} {f g : α → D} : ∀ (xs : List α) (acc : List D), (∀ x ∈ xs, ∃ ρ1 ρ3, b (f x) ρ = some ρ1 ∧ a ρ1 = .ok (g x) ρ3 ∧ keep μ ρ3 = ρ) → acc.length + xs.length ≤ 1000000 →
    lcL b mYes a μ (xs.map f) acc ρ = .ok (.lst (acc ++ xs.map g)) ρ
  | [], acc, _, _ => by simp
  | x :: xs, acc, h, hl => by
    obtain ⟨ρ1, ρ3, h1, h2, h3⟩ := h x List.mem_cons_self
    simp only [List.length_cons] at hl
    show lcL b mYes a μ (f x :: xs.map f) acc ρ = _
    unfold lcL
    rw [h1]
    simp only [mYes_eq, h2]
    rw [if_pos (by omega), h3, lcL_from xs (acc ++ [g x]) (fun y hy => h y (List.mem_cons_of_mem _ hy)) (by simp; omega)]
    simp
theorem lcL_of {α : Type} {a : ME} {b : MB} {μ : List Mode} {ρ : List D} {f g : α → D} (xs : List α) (h : ∀ x ∈ xs, ∃ ρ1 ρ3, b (f x) ρ = some ρ1 ∧ a ρ1 = .ok (g x) ρ3 ∧ keep μ ρ3 = ρ) (hl : xs.length ≤ 1000000 := by first | omega | (simp; omega)) :
    lcL b mYes a μ (xs.map f) [] ρ = .ok (.lst (xs.map g)) ρ := lcL_from xs [] h (by simpa using hl)
theorem lcL_range {a : ME} {μ : List Mode} {ρ : List D} {i n : Nat} {g : Nat → D} (h : ∀ j, j < n → ∃ ρ3, a (ρ.set i (.int (j : Int))) = .ok (g j) ρ3 ∧ keep μ ρ3 = ρ) (hn : n ≤ 1000000 := by first | omega | (simp; omega)) :
    lcL (bName i) mYes a μ (ilist 0 n) [] ρ = .ok (.lst ((List.range n).map g)) ρ := by
  have := lcL_map (a := a) (b := bName i) (μ := μ) (ρ := ρ) (fun d => g d.nat) (ilist 0 n) (fun d hd => by
    obtain ⟨j, hj, rfl⟩ := mem_ilist hd
    rw [Int.zero_add]
    obtain ⟨ρ3, h1, h2⟩ := h j hj
    exact ⟨_, ρ3, rfl, by simpa [D.nat] using h1, h2⟩) (by simpa [ilist] using hn)
  rw [this, ilist_map (g := g) fun j _ => by simp [D.nat]]
theorem lcR {a : ME} {μ : List Mode} {ρ : List D} {i n : Nat} (g : Nat → D) (h : ∀ j, j < n → a (ρ.set i (.int (j : Int))) = .ok (g j) (ρ.set i (.int (j : Int)))) (hn : n ≤ 1000000 := by first | omega | (simp; omega)) (hk : ∀ d, keep μ (ρ.set i d) = ρ := by intro _; rfl) :
    lcL (bName i) mYes a μ (ilist 0 n) [] ρ = .ok (.lst ((List.range n).map g)) ρ := lcL_range (fun j hj => ⟨_, h j hj, hk _⟩) hn
theorem lcX {α : Type} {a : ME} {μ : List Mode} {ρ : List D} {i : Nat} {f : α → D} (g : α → D) (xs : List α) (h : ∀ x ∈ xs, a (ρ.set i (f x)) = .ok (g x) (ρ.set i (f x))) (hl : xs.length ≤ 1000000 := by first | omega | (simp; omega)) (hk : ∀ d, keep μ (ρ.set i d) = ρ := by intro _; rfl) :
    lcL (bName i) mYes a μ (xs.map f) [] ρ = .ok (.lst (xs.map g)) ρ := lcL_of xs (fun x hx => ⟨_, _, rfl, h x hx, hk _⟩) hl
theorem at0_range {n m : Nat} {g : Nat → Rat} (h : m < n) : at0 ((List.range n).map g) m = g m := by
  unfold at0
  rw [List.getD_eq_getElem?_getD, List.getElem?_map, List.getElem?_range h]
  rfl
theorem lproduct_eqN {k l : Nat} {rows : List (List Rat)} {v : List Rat} (hr : ∀ r ∈ rows, Bts k r ∧ v.length ≤ r.length) (hv : Bts l v) (k0 : 0 < k) (l0 : 0 < l) (hk : v.length * (k + l + 2) + 1 + (k + l) ≤ 13300) (hl : v.length ≤ 1000) (hn : rows.length ≤ 1000) :
    RV.m__law_product [rqm rows, rql v] = .ok (rql (mulv rows v)) := by
  have c1 : (v.length : Int) ≤ 1000000 := by omega
  have c2 : -1000000 ≤ (v.length : Int) := by omega
  have inner : ∀ r ∈ rows, RV.b__law_product_C1 [rqm rows, rql v, rql r, .non] = .ok (rql ((List.range v.length).map fun i => at0 r i * at0 v i)) [rqm rows, rql v, rql r, .non] := by
    intro r hm
    obtain ⟨b, le⟩ := hr r hm
    unfold RV.b__law_product_C1
    simp [c1, c2]
    rw [lcL_range (g := fun i => rq (at0 r i * at0 v i)), rql_range]
    intro j hj
    have t := ltimes_eq (b.at0 j k0) (hv.at0 j l0) (by omega)
    exact ⟨[rqm rows, rql v, rql r, .int j], by unfold RV.b__law_product_C1e; simp [ix_rql (xs := r) (i := j) (by omega), ix_rql hj, t], rfl⟩
  have outer : RV.b__law_product_C0 [rqm rows, rql v, .non, .non] = .ok (rql (mulv rows v)) [rqm rows, rql v, .non, .non] := by
    unfold RV.b__law_product_C0
    simp
    rw [lcL_of (g := fun r => rq (dot r v)) rows, rql_map]
    · rfl
    intro r hm
    have t := (sum_eqN (k := k + l) (xs := (List.range v.length).map fun i => at0 r i * at0 v i) (.range fun i _ => ((hr r hm).1.at0 i k0).mul (hv.at0 i l0)) (by simpa using hk)).1
    have i1 := inner r hm
    refine ⟨_, [rqm rows, rql v, rql r, .non], rfl, ?_, rfl⟩
    unfold RV.b__law_product_C0e
    simp [i1, t, dot]
  unfold RV.m__law_product
  rw [mDef_eq]
  unfold RV.b__law_product
  simp [outer]
theorem lproduct_eq {k : Nat} {rows : List (List Rat)} {v : List Rat} (hr : ∀ r ∈ rows, Bts k r ∧ v.length ≤ r.length) (hv : Bts k v) (k0 : 0 < k := by decide) (hk : k + k ≤ 700 := by decide) (hl : v.length ≤ 16 := by omega) (hn : rows.length ≤ 1000 := by omega) :
    RV.m__law_product [rqm rows, rql v] = .ok (rql (mulv rows v)) := lproduct_eqN hr hv k0 k0 (small_bits hl hk) (by omega) hn
theorem sum_snoc (xs : List Rat) (y : Rat) : (xs ++ [y]).sum = xs.sum + y := by
  induction xs with
  | nil => simp [Rat.add_zero, Rat.zero_add]
  | cons x xs ih => rw [List.cons_append, List.sum_cons, List.sum_cons, ih, Rat.add_assoc]
noncomputable def ra (x : Rat) : Rat := if x < 0 then -x else x
theorem num_neg_iff {x : Rat} : x.num < 0 ↔ x < 0 := by
  have := Rat.lt_iff x 0
  simp at this
  exact this.symm
theorem rq_abs {x : Rat} : (.tup [.int (x.num.natAbs : Int), .int x.den] : D) = rq (ra x) := by
  unfold ra
  by_cases h : x < 0
  · have h2 : x.num < 0 := num_neg_iff.mpr h
    rw [if_pos h]
    simp only [rq, Rat.neg_num, Rat.neg_den]
    rw [show ((x.num.natAbs : Nat) : Int) = -x.num by omega]
  · have h2 : ¬ x.num < 0 := fun z => h (num_neg_iff.mp z)
    rw [if_neg h]
    rw [show ((x.num.natAbs : Nat) : Int) = x.num by omega]
theorem rq_neg {x : Rat} : (.tup [.int (0 - x.num), .int x.den] : D) = rq (-x) := by
  simp only [rq, Rat.neg_num, Rat.neg_den, Int.zero_sub]
theorem ra_bt {k : Nat} {x : Rat} (h : Bt k x) : Bt k (ra x) := by
  unfold ra
  split
  · exact ⟨by simpa using h.n, h.d⟩
  · exact h
theorem ra_nonneg (x : Rat) : 0 ≤ ra x := by
  unfold ra
  split <;> grind
theorem ra_neg (x : Rat) : ra (-x) = ra x := by
  unfold ra
  split <;> split <;> grind
theorem ra_zero {x : Rat} : ra x = 0 ↔ x = 0 := by
  unfold ra
  split <;> grind
theorem ra_mul (x y : Rat) : ra (x * y) = ra x * ra y := by
  have h1 : ∀ a b : Rat, 0 ≤ a → 0 ≤ b → 0 ≤ a * b := fun a b => Rat.mul_nonneg
  unfold ra
  by_cases hx : x < 0
  · by_cases hy : y < 0
    · have := h1 (-x) (-y) (by grind) (by grind)
      have e : ¬ x * y < 0 := by grind
      simp [hx, hy, e]
      grind
    · have := h1 (-x) y (by grind) (by grind)
      by_cases e : x * y < 0
      · simp [hx, hy, e]; grind
      · simp [hx, hy, e]; grind
  · by_cases hy : y < 0
    · have := h1 x (-y) (by grind) (by grind)
      by_cases e : x * y < 0
      · simp [hx, hy, e]; grind
      · simp [hx, hy, e]; grind
    · have := h1 x y (by grind) (by grind)
      have e : ¬ x * y < 0 := by grind
      simp [hx, hy, e]
theorem ra_add (x y : Rat) : ra (x + y) ≤ ra x + ra y := by
  unfold ra
  split <;> split <;> split <;> grind
end MR
namespace MR
open PySem L2
noncomputable def Cd (D b : Nat) (x : Rat) : Prop := ∃ m : Int, x = Rat.divInt m D ∧ m.natAbs < 2 ^ b
theorem Cd.bt {D b : Nat} {x : Rat} (h : Cd D b x) (h0 : 0 < D) (hD : D < 2 ^ b) : Bt b x := by
  obtain ⟨m, rfl, hm⟩ := h
  exact .of (by omega) hm (by simpa using hD)
noncomputable def Rw (b n : Nat) (f : Nat → Rat) : Prop := ∃ D : Nat, 0 < D ∧ D < 2 ^ b ∧ ∀ c, c < n → Cd D b (f c)
theorem Rw.bt {b n : Nat} {f : Nat → Rat} (h : Rw b n f) {c : Nat} (hc : c < n) : Bt b (f c) := by
  obtain ⟨D, h0, hD, hf⟩ := h
  exact (hf c hc).bt h0 hD
theorem Rw.mono {b d n : Nat} {f : Nat → Rat} (h : Rw b n f) (e : b ≤ d) : Rw d n f := by
  obtain ⟨D, h0, hD, hf⟩ := h
  refine ⟨D, h0, p2 hD e, fun c hc => ?_⟩
  obtain ⟨m, e1, e2⟩ := hf c hc
  exact ⟨m, e1, p2 e2 e⟩
theorem elim_key (d1 d2 w s v a u : Rat) (h1 : d1 ≠ 0) (h2 : d2 ≠ 0) (h3 : w ≠ 0) (h4 : s ≠ 0) : v / d1 - (a / d1) / (w / d2) * (u / d2) = s * (v * w - a * u) / (d1 * (s * w)) := by grind
theorem Rw.elim {b n at' : Nat} {f g : Nat → Rat} (hf : Rw b n f) (hg : Rw b n g) (ha : at' < n) (h0 : g at' ≠ 0) : Rw (b + b + 1) n fun c => f c - f at' / g at' * g c := by
  obtain ⟨D, D0, hD, hF⟩ := hf
  obtain ⟨D', D0', hD', hG⟩ := hg
  obtain ⟨a, ea, ha1⟩ := hF at' ha
  obtain ⟨w, ew, hw⟩ := hG at' ha
  have w0 : w ≠ 0 := fun z => h0 (by rw [ew, z, Rat.zero_divInt])
  have hDw : D * w.natAbs < 2 ^ (b + b + 1) := p2 (mul_bits hD hw) (by omega)
  refine ⟨D * w.natAbs, Nat.mul_pos D0 (by omega), hDw, fun c hc => ?_⟩
  obtain ⟨v, ev, hv⟩ := hF c hc
  obtain ⟨u, eu, hu⟩ := hG c hc
  obtain ⟨s, hs, es⟩ : ∃ s : Int, (s = 1 ∨ s = -1) ∧ (w.natAbs : Int) = s * w := by
    by_cases h : 0 < w
    · exact ⟨1, .inl rfl, by omega⟩
    · exact ⟨-1, .inr rfl, by omega⟩
  refine ⟨s * (v * w - a * u), ?_, ?_⟩
  · show f c - f at' / g at' * g c = _
    rw [ev, ea, ew, eu]
    have hn : ∀ (x : Int) (y : Int), Rat.divInt x y = (x : Rat) / (y : Rat) := Rat.divInt_eq_div
    have e3 : ((D * w.natAbs : Nat) : Int) = (D : Int) * (s * w) := by rw [Int.natCast_mul, es]
    rw [e3]
    simp only [hn]
    have dD : ((D : Int) : Rat) ≠ 0 := fun z => by
      have : (D : Int) = 0 := by exact_mod_cast z
      omega
    have dD' : ((D' : Int) : Rat) ≠ 0 := fun z => by
      have : (D' : Int) = 0 := by exact_mod_cast z
      omega
    have dw : (w : Rat) ≠ 0 := fun z => w0 (by exact_mod_cast z)
    have ds : (s : Rat) ≠ 0 := fun z => by
      have : s = 0 := by exact_mod_cast z
      omega
    have c1 : ((s * (v * w - a * u) : Int) : Rat) = (s : Rat) * ((v : Rat) * w - a * u) := by push_cast; rfl
    have c2 : (((D : Int) * (s * w) : Int) : Rat) = ((D : Int) : Rat) * ((s : Rat) * w) := by push_cast; rfl
    rw [c1, c2]
    exact elim_key _ _ _ _ _ _ _ dD dD' dw ds
  · have z1 := mul_bitsI hv hw
    have z2 := mul_bitsI ha1 hu
    have z3 := sub_bitsI z1 z2
    rcases hs with rfl | rfl
    · rw [Int.one_mul]; exact z3
    · rw [Int.neg_one_mul, Int.natAbs_neg]; exact z3
noncomputable def sm (n : Nat) (f : Nat → Rat) : Rat := ((List.range n).map f).sum
theorem sm_zero (f : Nat → Rat) : sm 0 f = 0 := rfl
theorem sm_succ (n : Nat) (f : Nat → Rat) : sm (n + 1) f = sm n f + f n := by
  unfold sm
  rw [List.range_succ, List.map_append, List.map_singleton, sum_snoc]
theorem sm_congr {n : Nat} {f g : Nat → Rat} (h : ∀ c, c < n → f c = g c) : sm n f = sm n g := by
  unfold sm
  congr 1
  exact List.map_congr_left fun c hc => h c (List.mem_range.mp hc)
theorem sm_none {n : Nat} {f : Nat → Rat} (h : ∀ c, c < n → f c = 0) : sm n f = 0 := by
  induction n with
  | zero => rfl
  | succ n ih => rw [sm_succ, ih fun c hc => h c (by omega), h n (by omega), Rat.add_zero]
theorem sm_one {n i : Nat} {f : Nat → Rat} (hi : i < n) (h : ∀ c, c < n → c ≠ i → f c = 0) : sm n f = f i := by
  induction n with
  | zero => omega
  | succ n ih =>
    rw [sm_succ]
    by_cases e : i = n
    · subst e
      rw [sm_none fun c hc => h c (by omega) (by omega), Rat.zero_add]
    · rw [ih (by omega) fun c hc => h c (by omega), h n (by omega) (fun z => e z.symm), Rat.add_zero]
theorem sm_sub_mul {n : Nat} {f g z : Nat → Rat} {k : Rat} : sm n (fun c => (f c - k * g c) * z c) = sm n (fun c => f c * z c) - k * sm n (fun c => g c * z c) := by
  induction n with
  | zero => rw [sm_zero, sm_zero, sm_zero]; grind
  | succ n ih => rw [sm_succ, sm_succ, sm_succ, ih]; grind
noncomputable abbrev Tb := Nat → Nat → Rat
noncomputable def Hom (n : Nat) (T : Tb) (z : Nat → Rat) : Prop := ∀ r, r < n → sm (n + 1) (fun c => T r c * z c) = 0
noncomputable def swapT (T : Tb) (i j : Nat) : Tb := fun r => if r = i then T j else if r = j then T i else T r
noncomputable def elimT (T : Tb) (i k : Nat) : Tb := fun r => if r ≠ i ∧ r < k then fun c => T r c - T r i / T i i * T i c else T r
theorem hom_swap {n i j : Nat} {T : Tb} {z : Nat → Rat} (hi : i < n) (hj : j < n) : Hom n (swapT T i j) z ↔ Hom n T z := by
  constructor
  · intro h r hr
    by_cases e : r = i
    · have := h j hj
      unfold swapT at this
      by_cases e2 : j = i
      · subst e2; subst e; simpa using this
      · simp [e2] at this; rw [e]; exact this
    · by_cases e2 : r = j
      · have := h i hi
        unfold swapT at this
        simp at this
        rw [e2]; exact this
      · have := h r hr
        unfold swapT at this
        simpa [e, e2] using this
  · intro h r hr
    unfold swapT
    by_cases e : r = i
    · simp [e]; exact h j hj
    · by_cases e2 : r = j
      · simp [e, e2]
        split
        · exact h j hj
        · exact h i hi
      · simp [e, e2]; exact h r hr
theorem hom_elim {n i : Nat} {T : Tb} {z : Nat → Rat} (hi : i < n) : Hom n (elimT T i n) z ↔ Hom n T z := by
  have own : ∀ c, elimT T i n i c = T i c := fun c => by simp [elimT]
  constructor
  · intro h
    have h0 : sm (n + 1) (fun c => T i c * z c) = 0 := by
      have := h i hi
      rw [sm_congr (g := fun c => T i c * z c) fun c _ => by rw [own]] at this
      exact this
    intro r hr
    by_cases e : r = i
    · rw [e]; exact h0
    · have := h r hr
      rw [sm_congr (g := fun c => (T r c - T r i / T i i * T i c) * z c) fun c _ => by simp [elimT, e, hr], sm_sub_mul, h0] at this
      grind
  · intro h r hr
    by_cases e : r = i
    · rw [sm_congr (g := fun c => T i c * z c) fun c _ => by rw [e, own]]
      exact h i hi
    · rw [sm_congr (g := fun c => (T r c - T r i / T i i * T i c) * z c) fun c _ => by simp [elimT, e, hr], sm_sub_mul, h r hr, h i hi]
      grind
noncomputable def rowL (n : Nat) (f : Nat → Rat) : List Rat := (List.range n).map f
noncomputable def tabL (n : Nat) (T : Tb) : List (List Rat) := (List.range n).map fun r => rowL (n + 1) (T r)
theorem rowL_len {n : Nat} {f : Nat → Rat} : (rowL n f).length = n := by simp [rowL]
theorem tabL_len {n : Nat} {T : Tb} : (tabL n T).length = n := by simp [tabL]
theorem rowL_at {n c : Nat} {f : Nat → Rat} (h : c < n) : at0 (rowL n f) c = f c := at0_range h
theorem tabL_row {n r : Nat} {T : Tb} (h : r < n) : row (tabL n T) r = rowL (n + 1) (T r) := by
  unfold row tabL
  rw [List.getD_eq_getElem?_getD, List.getElem?_map, List.getElem?_range h]
  rfl
theorem rowL_congr {n : Nat} {f g : Nat → Rat} (h : ∀ c, c < n → f c = g c) : rowL n f = rowL n g := List.map_congr_left fun c hc => h c (List.mem_range.mp hc)
theorem tabL_congr {n : Nat} {T U : Tb} (h : ∀ r, r < n → T r = U r) : tabL n T = tabL n U := List.map_congr_left fun r hr => by rw [h r (List.mem_range.mp hr)]
theorem tabL_set {n i : Nat} {T : Tb} {f : Nat → Rat} (h : i < n) : (tabL n T).set i (rowL (n + 1) f) = tabL n (fun r => if r = i then f else T r) := by
  unfold tabL
  refine List.ext_getElem (by simp) fun j h1 h2 => ?_
  have hj : j < n := by simpa using h2
  rw [List.getElem_set]
  by_cases e : i = j
  · subst e; simp
  · simp [e, show j ≠ i from fun z => e z.symm]
theorem rqm_set {n i : Nat} {T : Tb} {f : Nat → Rat} (h : i < n) : D.lst (((tabL n T).map rql).set i (rql (rowL (n + 1) f))) = rqm (tabL n (fun r => if r = i then f else T r)) := by
  rw [← tabL_set h]
  unfold rqm
  rw [List.map_set]
theorem ix_tab {n r : Nat} {T : Tb} (h : r < n) : fIx (D.lst ((tabL n T).map rql)) (.int r) = some (rql (rowL (n + 1) (T r))) := by
  have := ix_rqm (xs := tabL n T) (i := r) (by rw [tabL_len]; exact h)
  rw [tabL_row h] at this
  exact this
theorem ix_rowL {n c : Nat} {f : Nat → Rat} (h : c < n) : fIx (rql (rowL n f)) (.int c) = some (rq (f c)) := by
  have := ix_rql (xs := rowL n f) (i := c) (by rw [rowL_len]; exact h)
  rw [rowL_at h] at this
  exact this
theorem ixO_tab {n r : Nat} {T : Tb} (h : r < n) : fIxO (rqm (tabL n T)) (.int r) = some (rql (rowL (n + 1) (T r))) := ix_tab h
@[simp] theorem lenO_rqm {xs : List (List Rat)} {ρ : List D} : lenO (rqm xs) ρ = .ok (.int xs.length) ρ := by unfold rqm; simp
theorem without_eq {b n i : Nat} {f g : Nat → Rat} (hf : Rw b n f) (hg : Rw b n g) (hi : i < n) (h0 : g i ≠ 0) (hb : b + b + b + b ≤ 13300) (hn : n ≤ 1000) : RV.m_without_column [rql (rowL n f), rql (rowL n g), .int i] = .ok (rql (rowL n fun c => f c - f i / g i * g c)) := by
  have o := over_eq (hf.bt hi) (hg.bt hi) h0 (by omega)
  have bp := (hf.bt hi).div (hg.bt hi) h0
  have zl : List.zipWith (fun u v => D.tup [u, v]) ((rowL n f).map rq) ((rowL n g).map rq) = (List.range n).map fun c => D.tup [rq (f c), rq (g c)] := by
    refine List.ext_getElem (by simp [rowL]) fun c h1 h2 => ?_
    simp [rowL]
  have cc : RV.b_without_column_C0 [rql (rowL n f), rql (rowL n g), .int i, rq (f i / g i), .non, .non] = .ok (rql (rowL n fun c => f c - f i / g i * g c)) [rql (rowL n f), rql (rowL n g), .int i, rq (f i / g i), .non, .non] := by
    unfold RV.b_without_column_C0
    simp [zip2, zl]
    rw [lcL_of (f := fun c => D.tup [rq (f c), rq (g c)]) (g := fun c => rq (f c - f i / g i * g c)) (List.range n), rql_range]
    · rfl
    · intro c hc
      have hc := List.mem_range.mp hc
      have t := times_eq bp (hg.bt hc) (by omega)
      have sb := sub_eq (hf.bt hc) (bp.mul (hg.bt hc)) (by omega)
      refine ⟨_, [rql (rowL n f), rql (rowL n g), .int i, rq (f i / g i), rq (f c), rq (g c)], rfl, ?_, rfl⟩
      unfold RV.b_without_column_C0e
      simp [t, sb]
  unfold RV.m_without_column
  rw [mDef_eq]
  unfold RV.b_without_column
  simp [ix_rowL hi, o, cc]
noncomputable abbrev sl (t a p o : D) : List D := [.non, .non, t, a, p, o, .non, .non]
noncomputable def bWh : MT := (mAnd (mCmpT fLt (mVar 4) (mLenO 2)) (mCmpT fEq (mOp fIx (mIxO 2 (mVar 4)) (mVar 3)) (mC (.tup [(.int 0), (.int 1)]))))
theorem zero_rq : (.tup [.int 0, .int 1] : D) = rq 0 := rfl
theorem pivot_loop {n i : Nat} {T : Tb} (hi : i < n) : ∀ (k p : Nat), p + k = n → ∀ fuel, k < fuel → ∃ q : Nat, whileN bWh RV.b_solve_L1 fuel (sl (rqm (tabL n T)) (.int i) (.int p) .non) = .nx (sl (rqm (tabL n T)) (.int i) (.int q) .non) ∧ p ≤ q ∧ q ≤ n ∧ (∀ r, p ≤ r → r < q → T r i = 0) ∧ (q < n → T q i ≠ 0)
  | k, p, hk, 0, hf => by omega
  | 0, p, hk, fuel + 1, hf => by
    have e : p = n := by omega
    subst e
    refine ⟨p, ?_, Nat.le_refl _, Nat.le_refl _, fun r h1 h2 => by omega, fun h => by omega⟩
    rw [whileN_succ]
    have c1 : bWh (sl (rqm (tabL p T)) (.int i) (.int p) .non) = .ok false (sl (rqm (tabL p T)) (.int i) (.int p) .non) := by
      unfold bWh
      simp [tabL_len]
    rw [c1]
    rfl
  | k + 1, p, hk, fuel + 1, hf => by
    have hp : p < n := by omega
    have c1 : bWh (sl (rqm (tabL n T)) (.int i) (.int p) .non) = .ok (decide (T p i = 0)) (sl (rqm (tabL n T)) (.int i) (.int p) .non) := by
      unfold bWh
      simp [tabL_len, hp, ixO_tab hp, ix_rowL (show i < n + 1 by omega), zero_rq]
    rw [whileN_succ, c1]
    by_cases h : T p i = 0
    · obtain ⟨q, h1, h2, h3, h4, h5⟩ := pivot_loop hi k (p + 1) (by omega) fuel (by omega)
      refine ⟨q, ?_, by omega, h3, fun r r1 r2 => ?_, h5⟩
      · rw [decide_eq_true h, wh_t]
        have : RV.b_solve_L1 (sl (rqm (tabL n T)) (.int i) (.int p) .non) = .nx (sl (rqm (tabL n T)) (.int i) (.int (p + 1 : Nat)) .non) := by
          unfold RV.b_solve_L1
          simp
        rw [this, loop_nx]
        exact h1
      · by_cases e : r = p
        · rw [e]; exact h
        · exact h4 r (by omega) r2
    · refine ⟨p, ?_, Nat.le_refl _, by omega, fun r h1 h2 => by omega, fun _ => h⟩
      rw [decide_eq_false h, wh_f]
theorem set_tab {n i : Nat} {T : Tb} {f : Nat → Rat} (h : i < n) : setD ((tabL n T).map rql) (i : Int) (rql (rowL (n + 1) f)) = some (((tabL n T).map rql).set i (rql (rowL (n + 1) f))) := setD_nat (by simp [tabL_len]; exact h)
theorem swap_step {n i q : Nat} {T : Tb} (hi : i < n) (hq : q < n) :
    mAsgT (bTup 2 (bCons (bSetO 2 (mVar 3)) (bCons (bSetO 2 (mVar 4)) bNil))) (mTup (mCons (mIxO 2 (mVar 4)) (mCons (mIxO 2 (mVar 3)) mNil))) (sl (rqm (tabL n T)) (.int i) (.int q) .non) = .nx (sl (rqm (tabL n (swapT T i q))) (.int i) (.int q) .non) := by
  have e : tabL n (fun r => if r = q then T i else if r = i then T q else T r) = tabL n (swapT T i q) := tabL_congr fun r _ => by
    unfold swapT
    by_cases h1 : r = i
    · by_cases h2 : r = q
      · subst h1; subst h2; simp
      · simp [h1, h2]
        intro h3
        exact absurd (h1.trans h3) h2
    · simp [h1]
  rw [← e]
  simp [ixO_tab hi, ixO_tab hq, set_tab hi, rqm_set hi]
  rw [set_tab hq]
  simp [rqm_set hq]
theorem elim_row {b n i k : Nat} {T : Tb} (hi : i < n) (hk : k < n) (h0 : T i i ≠ 0) (hR : ∀ r, r < n → Rw b (n + 1) (T r)) (hb : b + b + b + b ≤ 13300) (hn : n ≤ 900) :
    RV.b_solve_L2 (sl (rqm (tabL n (elimT T i k))) (.int i) .non (.int k)) = .nx (sl (rqm (tabL n (elimT T i (k + 1)))) (.int i) .non .non) := by
  have ek : elimT T i k k = T k := by simp [elimT]
  have ei : elimT T i k i = T i := by simp [elimT]
  unfold RV.b_solve_L2
  by_cases h : k = i
  · have e : tabL n (elimT T i (k + 1)) = tabL n (elimT T i k) := tabL_congr fun r _ => by
      unfold elimT
      by_cases h1 : r = i
      · simp [h1]
      · have : (r < k + 1) = (r < k) := by
          apply propext
          omega
        simp [h1, this]
    rw [e]
    simp [h]
  · have h' : ¬ (k : Int) = (i : Int) := by omega
    have w := without_eq (hR k hk) (hR i hi) (by omega) h0 hb (by omega)
    have e : tabL n (fun r => if r = k then (fun c => T k c - T k i / T i i * T i c) else elimT T i k r) = tabL n (elimT T i (k + 1)) := tabL_congr fun r _ => by
      unfold elimT
      by_cases h1 : r = k
      · subst h1
        simp [h]
      · by_cases h2 : r = i
        · simp [h1, h2, show ¬ i = k from fun z => h z.symm]
        · have : (r < k + 1) = (r < k) := by
            apply propext
            omega
          simp [h1, h2, this]
    simp [h', ixO_tab hk, ixO_tab hi, ek, ei, w, set_tab hk, rqm_set hk, e]
theorem elim_loop {b n i : Nat} {T : Tb} (hi : i < n) (h0 : T i i ≠ 0) (hR : ∀ r, r < n → Rw b (n + 1) (T r)) (hb : b + b + b + b ≤ 13300) (hn : n ≤ 900) :
    forL (bName 5) RV.b_solve_L2 (ilist 0 n) (sl (rqm (tabL n T)) (.int i) .non .non) = .nx (sl (rqm (tabL n (elimT T i n))) (.int i) .non .non) := by
  have z : elimT T i 0 = T := by funext r; simp [elimT]
  have := forL_range (i := 5) (s1 := RV.b_solve_L2) (fun k => sl (rqm (tabL n (elimT T i k))) (.int i) .non .non) n fun k hk => .inl (elim_row hi hk h0 hR hb hn)
  rw [z] at this
  exact this
theorem column {b n i : Nat} {T : Tb} (hi : i < n) (hR : ∀ r, r < n → Rw b (n + 1) (T r)) (hb : b + b + b + b ≤ 13300) (hn : n ≤ 900) :
    ((∀ r, i ≤ r → r < n → T r i = 0) ∧ ∃ ρ, RV.b_solve_L0 (sl (rqm (tabL n T)) (.int i) .non .non) = .exc .singular ρ) ∨
    (∃ q, i ≤ q ∧ q < n ∧ T q i ≠ 0 ∧ RV.b_solve_L0 (sl (rqm (tabL n T)) (.int i) .non .non) = .nx (sl (rqm (tabL n (elimT (swapT T i q) i n))) .non .non .non)) := by
  obtain ⟨q, h1, h2, h3, h4, h5⟩ := pivot_loop (T := T) hi (n - i) i (by omega) (n + 1) (by omega)
  unfold bWh at h1
  have fl : (rqm (tabL n T)).size = n := by simp [rqm, tabL_len, D.size]
  by_cases hq : q = n
  · left
    refine ⟨fun r r1 r2 => h4 r r1 (by omega), ?_⟩
    unfold RV.b_solve_L0
    simp [fl, h1, tabL_len, hq]
  · right
    have hq' : q < n := by omega
    have hqi : ¬ (q : Int) = (n : Int) := by omega
    refine ⟨q, h2, hq', h5 hq', ?_⟩
    have sw := swap_step (T := T) hi hq'
    have hR' : ∀ r, r < n → Rw b (n + 1) (swapT T i q r) := fun r hr => by
      unfold swapT
      split
      · exact hR q hq'
      · split
        · exact hR i hi
        · exact hR r hr
    have h0' : swapT T i q i i ≠ 0 := by simp [swapT]; exact h5 hq'
    have el := elim_loop hi h0' hR' hb hn
    have c1 : (n : Int) ≤ 1000000 := by omega
    have c2 : -1000000 ≤ (n : Int) := by omega
    unfold RV.b_solve_L0
    simp [-mAsgT_eq, fl, h1, tabL_len, hqi, sw, c1, c2, el]
theorem sm_two {n i j : Nat} {f : Nat → Rat} (hi : i < n) (hj : j < n) (hij : i ≠ j) (h : ∀ c, c < n → c ≠ i → c ≠ j → f c = 0) : sm n f = f i + f j := by
  have e : sm n f = sm n (fun c => if c = i then f i else 0) + sm n (fun c => if c = j then f j else 0) := by
    have ad : ∀ (m : Nat) (u v : Nat → Rat), sm m (fun c => u c + v c) = sm m u + sm m v := fun m u v => by
      induction m with
      | zero => rw [sm_zero, sm_zero, sm_zero, Rat.add_zero]
      | succ m ih => rw [sm_succ, sm_succ, sm_succ, ih]; grind
    rw [← ad]
    refine sm_congr fun c hc => ?_
    by_cases h1 : c = i
    · subst h1; simp [hij, Rat.add_zero]
    · by_cases h2 : c = j
      · subst h2; simp [h1, Rat.zero_add]
      · simp [h1, h2, h c hc h1 h2, Rat.add_zero]
  rw [e, sm_one hi fun c _ hn => by simp [hn], sm_one hj fun c _ hn => by simp [hn]]
  simp
noncomputable def bb (b : Nat) : Nat → Nat
  | 0 => b
  | k + 1 => bb b k + bb b k + 1
theorem bb_le {b : Nat} : ∀ {i n : Nat}, i ≤ n → bb b i ≤ bb b n
  | i, 0, h => by rw [show i = 0 by omega]; exact Nat.le_refl _
  | i, n + 1, h => by
    by_cases e : i = n + 1
    · rw [e]; exact Nat.le_refl _
    · have := bb_le (b := b) (show i ≤ n by omega)
      show bb b i ≤ bb b n + bb b n + 1
      omega
structure Stg (b n : Nat) (T0 : Tb) (i : Nat) (T : Tb) : Prop where
  rw : ∀ r, r < n → Rw (bb b i) (n + 1) (T r)
  dg : ∀ c, c < i → T c c ≠ 0
  zr : ∀ c, c < i → ∀ r, r < n → r ≠ c → T r c = 0
  hm : ∀ z, Hom n T z ↔ Hom n T0 z
theorem Stg.step {b n i q : Nat} {T0 T : Tb} (h : Stg b n T0 i T) (hi : i < n) (h1 : i ≤ q) (hq : q < n) (h0 : T q i ≠ 0) : Stg b n T0 (i + 1) (elimT (swapT T i q) i n) := by
  have uii : swapT T i q i = T q := by simp [swapT]
  have ui0 : ∀ c, c < i → swapT T i q i c = 0 := fun c hc => by rw [uii]; exact h.zr c hc q hq (by omega)
  have ur : ∀ r, r < n → Rw (bb b i) (n + 1) (swapT T i q r) := fun r hr => by
    unfold swapT
    split
    · exact h.rw q hq
    · split
      · exact h.rw i hi
      · exact h.rw r hr
  have uc : ∀ c, c < i → ∀ r, r < n → r ≠ c → swapT T i q r c = 0 := fun c hc r hr hn => by
    unfold swapT
    split
    · exact h.zr c hc q hq (by omega)
    · split
      · exact h.zr c hc i hi (by omega)
      · exact h.zr c hc r hr hn
  have ud : ∀ c, c < i → swapT T i q c c = T c c := fun c hc => by
    unfold swapT
    rw [if_neg (by omega), if_neg (by omega)]
  have el : ∀ r, r < n → r ≠ i → elimT (swapT T i q) i n r = fun c => swapT T i q r c - swapT T i q r i / swapT T i q i i * swapT T i q i c := fun r hr hn => by simp [elimT, hn, hr]
  have eo : elimT (swapT T i q) i n i = swapT T i q i := by simp [elimT]
  refine ⟨fun r hr => ?_, fun c hc => ?_, fun c hc r hr hn => ?_, fun z => ?_⟩
  · by_cases e : r = i
    · rw [e, eo]
      exact (ur i hi).mono (by show bb b i ≤ bb b i + bb b i + 1; omega)
    · rw [el r hr e]
      exact (ur r hr).elim (ur i hi) (by omega) (by rw [uii]; exact h0)
  · by_cases e : c = i
    · rw [e, eo, uii]; exact h0
    · have hc' : c < i := by omega
      rw [el c (by omega) e]
      show swapT T i q c c - _ * swapT T i q i c ≠ 0
      rw [ui0 c hc', ud c hc']
      have := h.dg c hc'
      grind
  · by_cases e : r = i
    · rw [e, eo]
      exact uc c (by omega) i hi (by omega)
    · rw [el r hr e]
      show swapT T i q r c - swapT T i q r i / swapT T i q i i * swapT T i q i c = 0
      by_cases e2 : c = i
      · rw [e2]
        have : swapT T i q i i ≠ 0 := by rw [uii]; exact h0
        grind
      · rw [ui0 c (by omega), uc c (by omega) r hr hn]
        grind
  · rw [hom_elim hi, hom_swap hi hq]
    exact h.hm z
theorem Stg.stuck {b n i : Nat} {T0 T : Tb} (h : Stg b n T0 i T) (hi : i < n) (hz : ∀ r, i ≤ r → r < n → T r i = 0) : ∃ z : Nat → Rat, z n = 0 ∧ (∃ c, c < n ∧ z c ≠ 0) ∧ Hom n T0 z := by
  refine ⟨fun c => if c = i then 1 else if c < i then -(T c i / T c c) else 0, ?_, ⟨i, hi, by simp⟩, ?_⟩
  · simp [show ¬ n = i by omega, show ¬ n < i by omega]
  · rw [← h.hm]
    intro r hr
    by_cases hri : r < i
    · rw [sm_two (i := r) (j := i) (by omega) (by omega) (by omega) fun c hc h1 h2 => ?_]
      · have := h.dg r hri
        simp [show ¬ r = i by omega, hri]
        grind
      · by_cases hci : c < i
        · rw [h.zr c hci r hr (fun z => h1 z.symm), Rat.zero_mul]
        · simp [h2, hci]
    · refine sm_none fun c hc => ?_
      by_cases hci : c = i
      · subst hci
        rw [hz r (by omega) hr, Rat.zero_mul]
      · by_cases hcl : c < i
        · rw [h.zr c hcl r hr (by omega), Rat.zero_mul]
        · simp [hci, hcl]
theorem columns {b n : Nat} {T0 : Tb} (hb : bb b n + bb b n + bb b n + bb b n ≤ 13300) (hn : n ≤ 900) : ∀ (k i : Nat) (T : Tb), i + k = n → Stg b n T0 i T →
    (∃ T', forL (bName 3) RV.b_solve_L0 ((List.range' i k).map fun (j : Nat) => D.int (0 + (j : Int))) (sl (rqm (tabL n T)) .non .non .non) = .nx (sl (rqm (tabL n T')) .non .non .non) ∧ Stg b n T0 n T') ∨
    (∃ ρ, forL (bName 3) RV.b_solve_L0 ((List.range' i k).map fun (j : Nat) => D.int (0 + (j : Int))) (sl (rqm (tabL n T)) .non .non .non) = .exc .singular ρ ∧ ∃ z : Nat → Rat, z n = 0 ∧ (∃ c, c < n ∧ z c ≠ 0) ∧ Hom n T0 z)
  | 0, i, T, hk, h => .inl ⟨T, rfl, by rw [show n = i by omega] at h ⊢; exact h⟩
  | k + 1, i, T, hk, h => by
    have hi : i < n := by omega
    have hbi := bb_le (b := b) (show i ≤ n by omega)
    rw [List.range'_succ, List.map_cons, forL_cons, Int.zero_add, bName_eq, bindO_some]
    rcases column hi h.rw (by omega) hn with ⟨hz, ρ, e⟩ | ⟨q, h1, h2, h3, e⟩
    · right
      refine ⟨ρ, ?_, h.stuck hi hz⟩
      rw [show (sl (rqm (tabL n T)) D.non D.non D.non).set 3 (D.int i) = sl (rqm (tabL n T)) (.int i) .non .non from rfl, e]
      rfl
    · rw [show (sl (rqm (tabL n T)) D.non D.non D.non).set 3 (D.int i) = sl (rqm (tabL n T)) (.int i) .non .non from rfl, e]
      exact columns hb hn k (i + 1) _ (by omega) (h.step hi h1 h2 h3)
noncomputable def aug (n : Nat) (M : Tb) (v : Nat → Rat) : Tb := fun r c => if c < n then M r c else v r
noncomputable def rowsL (n : Nat) (M : Tb) : List (List Rat) := (List.range n).map fun r => rowL n (M r)
theorem rowsL_len {n : Nat} {M : Tb} : (rowsL n M).length = n := by simp [rowsL]
theorem aug_row {n r : Nat} {M : Tb} {v : Nat → Rat} : rowL (n + 1) (aug n M v r) = rowL n (M r) ++ [v r] := by
  unfold rowL aug
  rw [List.range_succ, List.map_append, List.map_singleton, if_neg (Nat.lt_irrefl n)]
  congr 1
  exact List.map_congr_left fun c hc => by rw [if_pos (List.mem_range.mp hc)]
theorem hom_aug {n : Nat} {M : Tb} {v z : Nat → Rat} : Hom n (aug n M v) z ↔ ∀ r, r < n → sm n (fun c => M r c * z c) + v r * z n = 0 := by
  have e : ∀ r, sm (n + 1) (fun c => aug n M v r c * z c) = sm n (fun c => M r c * z c) + v r * z n := fun r => by
    rw [sm_succ, sm_congr (g := fun c => M r c * z c) fun c hc => by simp [aug, hc]]
    simp [aug]
  constructor
  · intro h r hr
    rw [← e]
    exact h r hr
  · intro h r hr
    rw [e]
    exact h r hr
theorem solve_c0 {n : Nat} {M : Tb} {v : Nat → Rat} (hn : n ≤ 900) : RV.b_solve_C0 [rqm (rowsL n M), rql (rowL n v), .non, .non, .non, .non, .non, .non] = .ok (rqm (tabL n (aug n M v))) [rqm (rowsL n M), rql (rowL n v), .non, .non, .non, .non, .non, .non] := by
  have zl : List.zipWith (fun u w => D.tup [u, w]) ((rowsL n M).map rql) ((rowL n v).map rq) = (List.range n).map fun r => D.tup [rql (rowL n (M r)), rq (v r)] := by
    refine List.ext_getElem (by simp [rowsL, rowL]) fun c h1 h2 => ?_
    simp [rowsL, rowL]
  unfold RV.b_solve_C0
  simp [zip2, zl]
  rw [lcL_of (f := fun r => D.tup [rql (rowL n (M r)), rq (v r)]) (g := fun r => rql (rowL (n + 1) (aug n M v r))) (List.range n), rqm_map]
  · rfl
  · intro r hr
    refine ⟨_, [rqm (rowsL n M), rql (rowL n v), .non, .non, .non, .non, rql (rowL n (M r)), rq (v r)], rfl, ?_, rfl⟩
    have ad : fAdd (rql (rowL n (M r))) (.lst [rq (v r)]) = some (rql (rowL (n + 1) (aug n M v r))) := by
      have sz : ((rowL n (M r)).map rq).length + [rq (v r)].length ≤ sizeLine := by
        have := le_line (n := ((rowL n (M r)).map rq).length + [rq (v r)].length) (by simp [rowL]; omega)
        exact this
      show (if _ then _ else _) = _
      rw [if_pos sz, aug_row, rql_snoc]
    unfold RV.b_solve_C0e
    simp [ad]
theorem ix_last {n : Nat} {f : Nat → Rat} : fIx (rql (rowL (n + 1) f)) (.int (-1)) = some (rq (f n)) := by
  show atI ((rowL (n + 1) f).map rq) (-1) = _
  unfold atI ixN
  have l : ((rowL (n + 1) f).map rq).length = n + 1 := by simp [rowL]
  rw [l]
  rw [if_neg (by omega), if_pos (by omega)]
  simp only [Option.bind_some]
  rw [show (-1 + ((n + 1 : Nat) : Int)).toNat = n by omega]
  simp [rowL]
theorem quot_bt {b n : Nat} {f : Nat → Rat} {i j : Nat} (h : Rw b n f) (hi : i < n) (hj : j < n) (h0 : f j ≠ 0) : Bt b (f i / f j) := by
  obtain ⟨D, D0, hD, hf⟩ := h
  obtain ⟨m, e1, h1⟩ := hf i hi
  obtain ⟨w, e2, h2⟩ := hf j hj
  have w0 : w ≠ 0 := fun z => h0 (by rw [e2, z, Rat.zero_divInt])
  have e : f i / f j = Rat.divInt m w := by
    rw [e1, e2, Rat.divInt_eq_div, Rat.divInt_eq_div, Rat.divInt_eq_div]
    have dD : ((D : Int) : Rat) ≠ 0 := fun z => by
      have : (D : Int) = 0 := by exact_mod_cast z
      omega
    have dw : (w : Rat) ≠ 0 := fun z => w0 (by exact_mod_cast z)
    have k : ∀ (a c d : Rat), c ≠ 0 → d ≠ 0 → a / d / (c / d) = a / c := fun a c d h1 h2 => by grind
    exact k _ _ _ dw dD
  rw [e]
  exact .of w0 h1 h2
theorem solve_c1 {b n : Nat} {T0 T : Tb} (h : Stg b n T0 n T) (hb : bb b n + bb b n ≤ 13300) (hn : n ≤ 900) : RV.b_solve_C1 [.non, .non, rqm (tabL n T), .non, .non, .non, .non, .non] = .ok (rql (rowL n fun r => T r n / T r r)) [.non, .non, rqm (tabL n T), .non, .non, .non, .non, .non] := by
  have el : ((tabL n T).map rql).mapIdx (fun i d => D.tup [.int (i : Nat), d]) = (List.range n).map fun (r : Nat) => D.tup [.int r, rql (rowL (n + 1) (T r))] := by
    refine List.ext_getElem (by simp [tabL]) fun c h1 h2 => ?_
    simp [tabL]
  unfold RV.b_solve_C1
  simp [enum1]
  rw [el, lcL_of (f := fun (r : Nat) => D.tup [.int r, rql (rowL (n + 1) (T r))]) (g := fun r => rq (T r n / T r r)) (List.range n), rql_range]
  · rfl
  · intro r hr
    have hr := List.mem_range.mp hr
    have o := over_eq ((h.rw r hr).bt (show n < n + 1 by omega)) ((h.rw r hr).bt (show r < n + 1 by omega)) (h.dg r hr) (by omega)
    refine ⟨_, [.non, .non, rqm (tabL n T), .int r, .non, .non, rql (rowL (n + 1) (T r)), .non], rfl, ?_, rfl⟩
    unfold RV.b_solve_C1e
    simp [ix_last, ix_rowL (show r < n + 1 by omega), o]
theorem solve_eq {b n : Nat} {M : Tb} {v : Nat → Rat} (hR : ∀ r, r < n → Rw b (n + 1) (aug n M v r)) (hb : bb b n + bb b n + bb b n + bb b n ≤ 13300) (hn : n ≤ 900) :
    (∃ x : Nat → Rat, RV.m_solve [rqm (rowsL n M), rql (rowL n v)] = .ok (rql (rowL n x)) ∧ (∀ r, r < n → sm n (fun c => M r c * x c) = v r) ∧ (∀ y : Nat → Rat, (∀ r, r < n → sm n (fun c => M r c * y c) = v r) → ∀ c, c < n → y c = x c) ∧ ∀ c, c < n → Bt (bb b n) (x c)) ∨
    (RV.m_solve [rqm (rowsL n M), rql (rowL n v)] = .exc .singular ∧ ∃ z : Nat → Rat, (∃ c, c < n ∧ z c ≠ 0) ∧ ∀ r, r < n → sm n (fun c => M r c * z c) = 0) := by
  have c0 := solve_c0 (M := M) (v := v) hn
  have c1 : (n : Int) ≤ 1000000 := by omega
  have c2 : -1000000 ≤ (n : Int) := by omega
  have st : Stg b n (aug n M v) 0 (aug n M v) := ⟨hR, fun c hc => absurd hc (Nat.not_lt_zero c), fun c hc => absurd hc (Nat.not_lt_zero c), fun z => Iff.rfl⟩
  rcases columns hb hn n 0 (aug n M v) (by omega) st with ⟨T', e, h⟩ | ⟨ρ, e, z, z1, z2, z3⟩
  · left
    rw [← ilist_from] at e
    have cc := solve_c1 h (by omega) hn
    have hz : ∀ z : Nat → Rat, Hom n T' z ↔ ∀ r, r < n → T' r r * z r + T' r n * z n = 0 := fun z => by
      have es : ∀ r, r < n → sm (n + 1) (fun c => T' r c * z c) = T' r r * z r + T' r n * z n := fun r hr => sm_two (by omega) (by omega) (by omega) fun c hc h1 h2 => by rw [h.zr c (by omega) r hr (fun q => h1 q.symm), Rat.zero_mul]
      exact ⟨fun k r hr => by rw [← es r hr]; exact k r hr, fun k r hr => by rw [es r hr]; exact k r hr⟩
    refine ⟨fun r => T' r n / T' r r, ?_, ?_, ?_, fun c hc => quot_bt (h.rw c hc) (by omega) (by omega) (h.dg c hc)⟩
    · unfold RV.m_solve
      rw [mDef_eq]
      unfold RV.b_solve
      simp [c0, tabL_len, c1, c2, e, cc]
    · have k : Hom n (aug n M v) (fun c => if c = n then -1 else T' c n / T' c c) := by
        rw [← h.hm, hz]
        intro r hr
        have := h.dg r hr
        simp [show ¬ r = n by omega]
        grind
      rw [hom_aug] at k
      intro r hr
      have k2 := k r hr
      rw [sm_congr (g := fun c => M r c * (T' c n / T' c c)) fun c hc => by simp [show ¬ c = n by omega]] at k2
      simp at k2
      grind
    · intro y hy
      have k : Hom n (aug n M v) (fun c => if c = n then -1 else y c) := by
        rw [hom_aug]
        intro r hr
        rw [sm_congr (g := fun c => M r c * y c) fun c hc => by simp [show ¬ c = n by omega], hy r hr]
        simp
        grind
      rw [← h.hm, hz] at k
      intro c hc
      have k2 := k c hc
      have := h.dg c hc
      simp [show ¬ c = n by omega] at k2
      grind
  · right
    rw [← ilist_from] at e
    refine ⟨?_, z, z2, ?_⟩
    · unfold RV.m_solve
      rw [mDef_eq]
      unfold RV.b_solve
      simp [c0, tabL_len, c1, c2, e]
    · rw [hom_aug] at z3
      intro r hr
      have := z3 r hr
      rw [z1, Rat.mul_zero, Rat.add_zero] at this
      exact this
end MR
namespace MR
open PySem L2
noncomputable def offs (n : Nat) (f : Nat → Rat) (i : Nat) : Rat := sm n fun c => if c = i then 0 else ra (f c)
noncomputable def Dom (n : Nat) (M : Tb) : Prop := ∀ r, r < n → offs n (M r) r < ra (M r r)
theorem sm_ra {n : Nat} {f : Nat → Rat} : ra (sm n f) ≤ sm n fun c => ra (f c) := by
  induction n with
  | zero => rw [sm_zero, sm_zero]; decide
  | succ n ih =>
    rw [sm_succ, sm_succ]
    have := ra_add (sm n f) (f n)
    grind
theorem sm_le {n : Nat} {f g : Nat → Rat} (h : ∀ c, c < n → f c ≤ g c) : sm n f ≤ sm n g := by
  induction n with
  | zero => exact Rat.le_refl
  | succ n ih =>
    rw [sm_succ, sm_succ]
    have h1 := ih fun c hc => h c (by omega)
    have h2 := h n (by omega)
    grind
theorem sm_mul {n : Nat} {f : Nat → Rat} {k : Rat} : sm n (fun c => f c * k) = sm n f * k := by
  induction n with
  | zero => rw [sm_zero, sm_zero]; grind
  | succ n ih => rw [sm_succ, sm_succ, ih]; grind
theorem sm_split {n i : Nat} {f : Nat → Rat} (hi : i < n) : sm n f = f i + sm n fun c => if c = i then 0 else f c := by
  have e : sm n (fun c => if c = i then f i else 0) = f i := by
    rw [sm_one hi fun c _ h => by simp [h]]
    simp
  have ad : ∀ (m : Nat) (u v : Nat → Rat), sm m (fun c => u c + v c) = sm m u + sm m v := fun m u v => by
    induction m with
    | zero => rw [sm_zero, sm_zero, sm_zero, Rat.add_zero]
    | succ m ih => rw [sm_succ, sm_succ, sm_succ, ih]; grind
  conv => rhs; lhs; rw [← e]
  rw [← ad]
  refine sm_congr fun c _ => ?_
  by_cases h : c = i
  · subst h; simp [Rat.add_zero]
  · simp [h, Rat.zero_add]
theorem max_at (n : Nat) (z : Nat → Rat) (h : 0 < n) : ∃ r, r < n ∧ ∀ c, c < n → ra (z c) ≤ ra (z r) := by
  induction n with
  | zero => omega
  | succ n ih =>
    by_cases hn : n = 0
    · subst hn
      exact ⟨0, by omega, fun c hc => by rw [show c = 0 by omega]; exact Rat.le_refl⟩
    · obtain ⟨r, h1, h2⟩ := ih (by omega)
      by_cases hc : ra (z r) ≤ ra (z n)
      · refine ⟨n, by omega, fun c hc' => ?_⟩
        by_cases e : c = n
        · rw [e]; exact Rat.le_refl
        · have := h2 c (by omega); grind
      · refine ⟨r, by omega, fun c hc' => ?_⟩
        by_cases e : c = n
        · rw [e]; grind
        · exact h2 c (by omega)
theorem Dom.kernel {n : Nat} {M : Tb} (h : Dom n M) {z : Nat → Rat} (hz : ∀ r, r < n → sm n (fun c => M r c * z c) = 0) : ∀ c, c < n → z c = 0 := by
  intro c hc
  obtain ⟨r, hr, hm⟩ := max_at n z (by omega)
  by_cases h0 : ra (z r) = 0
  · have := hm c hc
    have := ra_nonneg (z c)
    exact ra_zero.mp (by grind)
  · exfalso
    have zp : 0 < ra (z r) := by have := ra_nonneg (z r); grind
    have d := h r hr
    have e := hz r hr
    rw [sm_split hr] at e
    have e2 : ra (M r r * z r) = ra (sm n fun c => if c = r then 0 else M r c * z c) := by
      rw [show M r r * z r = -(sm n fun c => if c = r then 0 else M r c * z c) by grind, ra_neg]
    have e3 : ra (sm n fun c => if c = r then 0 else M r c * z c) ≤ offs n (M r) r * ra (z r) := by
      refine Rat.le_trans sm_ra ?_
      unfold offs
      rw [← sm_mul]
      refine sm_le fun c hc => ?_
      by_cases q : c = r
      · simp [q, ra_zero.mpr rfl]
      · simp only [q, if_false]
        rw [ra_mul]
        exact Rat.mul_le_mul_of_nonneg_left (hm c hc) (ra_nonneg _)
    rw [ra_mul] at e2
    have e4 : offs n (M r) r * ra (z r) < ra (M r r) * ra (z r) := Rat.mul_lt_mul_of_pos_right d zp
    grind
end MR
namespace MR
open PySem L2
structure Shw (w : Nat) (p : PyData) : Prop where
  sh : p.showable = true
  nd : p.hasDict = false
  ls : p.leavesShort 13 = true
  wt : p.weight ≤ w
theorem Shw.mono {w v : Nat} {p : PyData} (h : Shw w p) (e : w ≤ v) : Shw v p := ⟨h.sh, h.nd, h.ls, Nat.le_trans h.wt e⟩
theorem div2520 {d : Int} (h1 : 1 ≤ d) (h9 : d ≤ 9) : ∃ a : Int, d * a = 2520 ∧ 0 < a ∧ a ≤ 2520 := by
  have : d = 1 ∨ d = 2 ∨ d = 3 ∨ d = 4 ∨ d = 5 ∨ d = 6 ∨ d = 7 ∨ d = 8 ∨ d = 9 := by omega
  rcases this with rfl | rfl | rfl | rfl | rfl | rfl | rfl | rfl | rfl
  · exact ⟨2520, by decide, by decide, by decide⟩
  · exact ⟨1260, by decide, by decide, by decide⟩
  · exact ⟨840, by decide, by decide, by decide⟩
  · exact ⟨630, by decide, by decide, by decide⟩
  · exact ⟨504, by decide, by decide, by decide⟩
  · exact ⟨420, by decide, by decide, by decide⟩
  · exact ⟨360, by decide, by decide, by decide⟩
  · exact ⟨315, by decide, by decide, by decide⟩
  · exact ⟨280, by decide, by decide, by decide⟩
theorem Cd.mono {D b c : Nat} {x : Rat} (h : Cd D b x) (e : b ≤ c) : Cd D c x := let ⟨m, h1, h2⟩ := h; ⟨m, h1, p2 h2 e⟩
noncomputable def Cn (D B : Nat) (x : Rat) : Prop := ∃ m : Int, x = Rat.divInt m D ∧ m.natAbs ≤ B
theorem Cn.cd {D B b : Nat} {x : Rat} (h : Cn D B x) (hb : B < 2 ^ b) : Cd D b x := let ⟨m, h1, h2⟩ := h; ⟨m, h1, Nat.lt_of_le_of_lt h2 hb⟩
theorem Cn.mono {D B C : Nat} {x : Rat} (h : Cn D B x) (hb : B ≤ C) : Cn D C x := let ⟨m, h1, h2⟩ := h; ⟨m, h1, Nat.le_trans h2 hb⟩
theorem Cn.add {D B C : Nat} {x y : Rat} (hx : Cn D B x) (hy : Cn D C y) (D0 : 0 < D) : Cn D (B + C) (x + y) := by
  obtain ⟨m, rfl, h1⟩ := hx
  obtain ⟨k, rfl, h2⟩ := hy
  refine ⟨m + k, ?_, by omega⟩
  rw [Rat.divInt_add_divInt _ _ (by omega) (by omega), ← Int.add_mul, Rat.divInt_mul_right (by omega)]
theorem Cn.neg {D B : Nat} {x : Rat} (hx : Cn D B x) : Cn D B (-x) := by
  obtain ⟨m, rfl, h1⟩ := hx
  exact ⟨-m, Rat.neg_divInt _ _, by omega⟩
theorem Cn.ra {D B : Nat} {x : Rat} (hx : Cn D B x) : Cn D B (MR.ra x) := by
  unfold MR.ra
  split
  · exact hx.neg
  · exact hx
theorem Cn.zero {D B : Nat} : Cn D B 0 := ⟨0, (Rat.zero_divInt _).symm, by omega⟩
theorem Cn.mul {D D' B C : Nat} {x y : Rat} (hx : Cn D B x) (hy : Cn D' C y) : Cn (D * D') (B * C) (x * y) := by
  obtain ⟨m, rfl, h1⟩ := hx
  obtain ⟨k, rfl, h2⟩ := hy
  refine ⟨m * k, ?_, ?_⟩
  · rw [Rat.divInt_mul_divInt, Int.natCast_mul]
  · rw [Int.natAbs_mul]
    exact Nat.mul_le_mul h1 h2
theorem Cn.sm {D B n : Nat} {f : Nat → Rat} (h : ∀ c, c < n → Cn D B (f c)) (D0 : 0 < D) : Cn D (n * B) (MR.sm n f) := by
  induction n with
  | zero => exact .zero
  | succ n ih =>
    rw [sm_succ, Nat.add_mul, Nat.one_mul]
    exact (ih fun c hc => h c (by omega)).add (h n (by omega)) D0
theorem cn_of {n d : Int} {k : Nat} (h1 : 1 ≤ d) (h9 : d ≤ 9) (hn : n.natAbs ≤ k) : Cn 2520 (k * 2520) (Rat.divInt n d) := by
  obtain ⟨a, ha, a1, a2⟩ := div2520 h1 h9
  refine ⟨n * a, ?_, ?_⟩
  · rw [← Rat.divInt_mul_right (show a ≠ 0 by omega), ha]
    rfl
  · rw [Int.natAbs_mul]
    exact Nat.mul_le_mul hn (by omega)
theorem small_cn (c : Int) : Cn 2520 15120 (smallR c) := by
  obtain ⟨n, d, e, h1, h9, hn⟩ := small_form c
  rw [e]
  exact (cn_of h1 h9 hn).mono (by decide)
theorem Bt.cn {D B k : Nat} {x : Rat} (h : Cn D B x) (D0 : 0 < D) (hD : D < 2 ^ k) (hB : B < 2 ^ k) : Bt k x := (h.cd hB).bt D0 hD
noncomputable def drawn (ns : List Int) (a n : Nat) : Tb := fun i j => smallR (cellZ ns (a + n * i + j))
theorem fSl_rql {xs : List Rat} {lo hi : Option Int} : fSl lo hi (rql xs) = some (rql (cutD xs lo hi)) := by
  unfold rql
  rw [fSl_lst]
  unfold cutD
  rw [List.length_map, List.map_take, List.map_drop]
theorem fSl_rqm {xs : List (List Rat)} {lo hi : Option Int} : fSl lo hi (rqm xs) = some (rqm (cutD xs lo hi)) := by
  unfold rqm
  rw [fSl_lst]
  unfold cutD
  rw [List.length_map, List.map_take, List.map_drop]
theorem fAdd_rql {xs ys : List Rat} (h : xs.length + ys.length ≤ 1000000) : fAdd (rql xs) (rql ys) = some (rql (xs ++ ys)) := by
  unfold rql
  rw [fAdd_lst, if_pos (by rw [List.length_map, List.length_map]; exact Nat.le_trans h (by decide)), List.map_append]
theorem rql_one {a : Rat} : D.lst [rq a] = rql [a] := rfl
theorem put_list {α : Type} {n at' : Nat} {f : Nat → α} {d : α} (h : at' < n) : ((List.range n).map f).take at' ++ [d] ++ ((List.range n).map f).drop (at' + 1) = (List.range n).map fun j => if j = at' then d else f j := by
  rw [List.append_assoc]
  refine List.ext_getElem (by simp; omega) fun i h1 h2 => ?_
  have hi : i < n := by simpa using h2
  by_cases e : i < at'
  · rw [List.getElem_append_left (by simp; omega)]
    simp [show ¬ i = at' by omega]
  · rw [List.getElem_append_right (by simp; omega)]
    have hl : (((List.range n).map f).take at').length = at' := by simp; omega
    by_cases e2 : i = at'
    · subst e2
      simp [hl]
    · rw [List.getElem_append_right (by simp; omega)]
      simp [e2]
      congr 1
      omega
theorem turn_list {α : Type} {n t : Nat} {f : Nat → α} (h : t < n) : ((List.range n).map f).drop t ++ ((List.range n).map f).take t = (List.range n).map fun j => f ((j + t) % n) := by
  refine List.ext_getElem (by simp; omega) fun i h1 h2 => ?_
  have hi : i < n := by simpa using h2
  by_cases e : i < n - t
  · rw [List.getElem_append_left (by simp; omega)]
    simp [Nat.mod_eq_of_lt (show i + t < n by omega), Nat.add_comm i t, Nat.mod_eq_of_lt (show t + i < n by omega)]
  · rw [List.getElem_append_right (by simp; omega)]
    have : (i + t) % n = i + t - n := by
      rw [Nat.mod_eq_sub_mod (by omega), Nat.mod_eq_of_lt (by omega)]
    simp [this]
    congr 1
    omega
theorem sum_pair {k : Nat} {a b : Rat} (ha : Bt k a) (hb : Bt k b) (hk : k ≤ 700 := by decide) : RV.m__law_sum [rql [a, b]] = .ok (rq (a + b)) := by
  have := sum_eq (k := k) (xs := [a, b]) (fun x hx => by
    rcases List.mem_cons.mp hx with rfl | hx
    · exact ha
    · rcases List.mem_cons.mp hx with rfl | hx
      · exact hb
      · cases hx) hk
  rw [this]
  simp [Rat.add_zero]
theorem sm_nonneg {n : Nat} {f : Nat → Rat} (h : ∀ c, c < n → 0 ≤ f c) : 0 ≤ sm n f := by
  induction n with
  | zero => exact Rat.le_refl
  | succ n ih =>
    rw [sm_succ]
    have := ih fun c hc => h c (by omega)
    have := h n (by omega)
    grind
theorem offs_nonneg {n i : Nat} {f : Nat → Rat} : 0 ≤ offs n f i := sm_nonneg fun c _ => by
  split
  · exact Rat.le_refl
  · exact ra_nonneg _
end MR
namespace MR
open PySem L2
noncomputable def bN : Nat := 10000000
structure Wd (x : Rat) : Prop where
  n : x.num.natAbs < 2 ^ bN
  d : x.den < 2 ^ 4000
theorem Cn.sub {D B C : Nat} {x y : Rat} (hx : Cn D B x) (hy : Cn D C y) (D0 : 0 < D) : Cn D (B + C) (x - y) := by
  rw [Rat.sub_eq_add_neg]
  exact hx.add hy.neg D0
theorem Cn.wider {D B E : Nat} {x : Rat} (h : Cn D B x) (E0 : 0 < E) : Cn (D * E) (B * E) x := by
  obtain ⟨m, rfl, h1⟩ := h
  refine ⟨m * E, ?_, ?_⟩
  · rw [Int.natCast_mul, Rat.divInt_mul_right (by omega)]
  · rw [Int.natAbs_mul]
    exact Nat.mul_le_mul h1 (by simp)
theorem Cn.int {n : Int} {B : Nat} (h : n.natAbs ≤ B) : Cn 1 B (n : Rat) := ⟨n, (Rat.num_divInt_den (n : Rat)).symm, h⟩
theorem Cn.divInt {n d : Int} {B D : Nat} (hd : 0 < d) (hD : d ∣ D) (D0 : 0 < D) (h : n.natAbs ≤ B) : Cn D (B * D) (Rat.divInt n d) := by
  obtain ⟨a, ha⟩ := hD
  have a0 : 0 < a := by
    rcases Int.lt_trichotomy a 0 with z | z | z
    · have := Int.mul_neg_of_pos_of_neg hd z
      omega
    · subst z
      omega
    · exact z
  have al : a.natAbs ≤ D := by
    have : a ≤ d * a := by
      have := Int.mul_le_mul_of_nonneg_right (show 1 ≤ d by omega) (Int.le_of_lt a0)
      omega
    omega
  refine ⟨n * a, ?_, ?_⟩
  · rw [← Rat.divInt_mul_right (show a ≠ 0 by omega), ← ha]
  · rw [Int.natAbs_mul]
    exact Nat.mul_le_mul h al
end MR
namespace MR
open PySem L2
structure Mk where
  n : Nat
  nm : Nat → Str
  ow : Nat → Str
  b : Nat → Rat
  o : Nat → Rat
  c : Nat → Rat
  cr : Nat → Nat → Rat
  kv : List (List Key × D)
noncomputable def pair (a b : Str) : List Key := [.inr a, .inr b]
structure MkOk (m : Mk) (D B : Nat) : Prop where
  n1 : 1 ≤ m.n
  n6 : m.n ≤ 6
  rise : ∀ i j, i < j → j < m.n → ltS (m.nm i) (m.nm j) = true
  crs : ∀ i j, i < m.n → j < m.n → (valD m.kv (pair (m.nm i) (m.nm j))).getD (rq 0) = rq (m.cr i j)
  self : ∀ i, i < m.n → m.cr i i = 0
  D0 : 0 < D
  D1 : D < 2 ^ 1000
  B1 : B < 2 ^ 1000
  bb : ∀ i, i < m.n → Cn D B (m.b i)
  bo : ∀ i, i < m.n → Cn D B (m.o i)
  bc : ∀ i, i < m.n → Cn D B (m.c i)
  bx : ∀ i j, i < m.n → j < m.n → Cn D B (m.cr i j)
end MR
namespace MR
open PySem L2
section
variable {m : Mk} {D B : Nat}
noncomputable def bd (B C D E : Nat) : Nat := 8 * (B * C + B * E)
theorem add_lt {a b k : Nat} (h1 : a < 2 ^ k) (h2 : b < 2 ^ k) : a + b < 2 ^ (k + 1) := by rw [Nat.pow_succ]; omega
theorem le_pow {a k l : Nat} (h : a < 2 ^ k) (e : k ≤ l := by decide) : a < 2 ^ l := Nat.lt_of_lt_of_le h (Nat.pow_le_pow_right (by decide) e)
@[simp] theorem rowL_zero {f : Nat → Rat} : rowL 0 f = [] := rfl
end
end MR
namespace MR
open PySem L2
theorem sm_addf {n : Nat} {f g : Nat → Rat} : sm n (fun i => f i + g i) = sm n f + sm n g := by
  induction n with
  | zero => simp [sm_zero, Rat.add_zero]
  | succ n ih => rw [sm_succ, sm_succ, sm_succ, ih]; grind
theorem sm_subf {n : Nat} {f g : Nat → Rat} : sm n (fun i => f i - g i) = sm n f - sm n g := by
  induction n with
  | zero => simp [sm_zero]; grind
  | succ n ih => rw [sm_succ, sm_succ, sm_succ, ih]; grind
theorem sm_mull {n : Nat} {f : Nat → Rat} {k : Rat} : sm n (fun i => k * f i) = k * sm n f := by
  induction n with
  | zero => simp [sm_zero, Rat.mul_zero]
  | succ n ih => rw [sm_succ, sm_succ, ih]; grind
theorem sm_swap {n k : Nat} {f : Nat → Nat → Rat} : sm n (fun i => sm k (fun j => f i j)) = sm k (fun j => sm n (fun i => f i j)) := by
  induction n with
  | zero =>
    rw [sm_zero]
    exact (sm_none fun c _ => sm_zero _).symm
  | succ n ih =>
    rw [sm_succ, ih, ← sm_addf]
    exact sm_congr fun c _ => (sm_succ n _).symm
noncomputable def Whole (E : Int) (x : Rat) : Prop := ∃ k : Int, (E : Rat) * x = (k : Rat)
theorem Whole.mul {E F : Int} {x : Rat} (h : Whole E x) : Whole (E * F) x := by
  obtain ⟨k, e⟩ := h
  refine ⟨k * F, ?_⟩
  rw [Rat.intCast_mul, Rat.intCast_mul, ← e]
  grind
end MR
namespace MR
open PySem L2
section
variable {m : Mk} {D B : Nat}
theorem ltS_irr (a : Str) : ltS a a = false := by
  cases h : ltS a a with
  | false => rfl
  | true => have := ltS_as a a h; rw [h] at this; exact this
end
end MR
namespace MR
open PySem L2
structure EqOk (m : Mk) (D B M : Nat) : Prop where
  pos : ∀ i j, i < m.n → j < m.n → 0 ≤ m.cr i j
  sym : ∀ i j, i < m.n → j < m.n → m.cr i j = m.cr j i
  dom : ∀ i, i < m.n → sm m.n (m.cr i) < m.o i
  mo : ∀ i, i < m.n → Cn D M (m.o i)
  mx : ∀ i j, i < m.n → j < m.n → Cn D M (m.cr i j)
  s1 : 2 * M * D < 2 ^ 14
  s2 : D * D < 2 ^ 50
  s3 : B * D + 7 * (B * B) < 2 ^ 50
section
variable {m : Mk} {D B M : Nat}
theorem Cn.num {D B : Nat} {x : Rat} (h : Cn D B x) (D0 : 0 < D) : ∃ k : Int, (D : Rat) * x = (k : Rat) ∧ k.natAbs ≤ B := by
  obtain ⟨k, rfl, hk⟩ := h
  refine ⟨k, ?_, hk⟩
  have d0 : ((D : Int) : Rat) ≠ 0 := by
    intro z
    have : (D : Int) = 0 := by exact_mod_cast z
    omega
  rw [Rat.divInt_eq_div]
  have e : ((D : Int) : Rat) = (D : Rat) := by norm_cast
  rw [← e]
  grind
end
end MR
namespace MR
open PySem L2
noncomputable abbrev abc : Str := Str.ofString "abcdefghijklmnopqrstuvwxyz"
noncomputable def isNm (s : Str) : Bool := (s.cps.toList.all fun c => decide (c ∈ abc.cps.toList)) && (decide (1 ≤ (s.length : Int)) && decide ((s.length : Int) ≤ 12))
structure Prd where
  nm : Str
  ow : Str
  b : Rat
  o : Rat
  c : Rat
structure Riv where
  a : Str
  b : Str
  x : Rat
noncomputable abbrev KR := List (List Key × Rat)
noncomputable def kvD (r : KR) : List (List Key × D) := r.map fun kv => (kv.1, rq kv.2)
noncomputable def valR (r : KR) (k : List Key) : Option Rat := (r.find? fun kv => decide (kv.1 = k)).map (·.2)
theorem valD_kvD {r : KR} {k : List Key} : valD (kvD r) k = (valR r k).map rq := by
  unfold valD kvD valR
  rw [List.find?_map, Option.map_map, Option.map_map]
  rfl
end MR
namespace MR
open PySem L2
noncomputable def txt (l : List Nat) : Str := ⟨l.toArray⟩
noncomputable def bsN (c : Int) (k : Nat) : List Nat := (List.range k).map fun (j : Nat) => 97 + ((c.fdiv (12 + (j : Int)) + 5 * (j : Int)).fmod 26).toNat
noncomputable def lenN (c : Int) : Nat := (c.fmod 12).toNat
noncomputable def atN (c : Int) : Nat := ((c.fdiv 7).fmod ((lenN c : Int) + 1)).toNat
noncomputable def stN (c : Int) : Int := (c.fdiv 100).fmod 26
noncomputable def wordN (c : Int) (k : Nat) : List Nat := (bsN c (lenN c)).take (atN c) ++ [97 + ((stN c + 4 * (k : Int)).fmod 26).toNat] ++ (bsN c (lenN c)).drop (atN c)
noncomputable def wordsL (c : Int) : List Str := sortS ((List.range 6).map fun k => txt (wordN c k))
end MR
namespace MR
open PySem L2
noncomputable def cellR (ns : List Int) (k : Nat) : Int := ns.getD k (11 * k + 5)
noncomputable def nN (ns : List Int) : Nat := 1 + ((cellR ns 0).fmod 6).toNat
noncomputable def nmL (ns : List Int) : List Str := (wordsL (cellR ns 30)).take (nN ns)
noncomputable def owL (ns : List Int) : List Str := (wordsL (cellR ns 31)).take 4
end MR
namespace MR
open PySem L2
noncomputable def stA (l : List Str) (i : Nat) : Str := l.getD i Str.empty
noncomputable def rvC (ns : List Int) (a b : Nat) : Int := (cellR ns (1 + a)).fdiv (1 + 3 * (b : Int))
noncomputable def rvX (ns : List Int) (a b : Nat) : Rat := Rat.divInt (1 + ((rvC ns a b).fdiv 3).fmod 6) (1 + ((rvC ns a b).fdiv 18).fmod 3)
noncomputable def rv1 (ns : List Int) (a b : Nat) : List Riv := if (rvC ns a b).fmod 3 = 0 then [] else [⟨stA (nmL ns) a, stA (nmL ns) b, rvX ns a b⟩]
noncomputable def rvRow (ns : List Int) (a k : Nat) : List Riv := (List.range k).flatMap fun i => rv1 ns a (a + 1 + i)
noncomputable def rvTo (ns : List Int) (k : Nat) : List Riv := (List.range k).flatMap fun a => rvRow ns a (nN ns - (a + 1))
noncomputable def rvs (ns : List Int) : List Riv := rvTo ns (nN ns)
end MR
namespace MR
open PySem L2
theorem mRng1_ok {ma : MA} {ρ ρ1 : List D} {n : Nat} (h : ma ρ = .ok [.int (n : Int)] ρ1) (hr : n ≤ 1000) : mRng rng1 ma ρ = .ok (ilist 0 n) ρ1 := by
  have c1 : (-1000000 : Int) ≤ (n : Int) := by omega
  have c2 : (n : Int) ≤ 1000000 := by omega
  rw [mRng_eq, h, args_ok, rng1_eq, if_pos ⟨c1, c2⟩, Int.toNat_natCast]
  rfl
noncomputable def totV (s : Str) : List Riv → Rat
  | [] => 0
  | v :: vs => (if s = v.a ∨ s = v.b then v.x else 0) + totV s vs
noncomputable def pdO (ns : List Int) (k : Nat) : Rat := Rat.divInt (1 + (cellR ns (6 + k)).fmod 5) (1 + ((cellR ns (6 + k)).fdiv 5).fmod 3)
noncomputable def pdW (ns : List Int) (k : Nat) : Nat := (((cellR ns (6 + k)).fdiv 15).fmod 4).toNat
noncomputable def pd (ns : List Int) (k : Nat) : Prd :=
  ⟨stA (nmL ns) k, stA (owL ns) (pdW ns k), Rat.divInt (20 + ((cellR ns (6 + k)).fdiv 7).fmod 90) (1 + ((cellR ns (6 + k)).fdiv 11).fmod 4), totV (stA (nmL ns) k) (rvs ns) + pdO ns k, Rat.divInt (((cellR ns (6 + k)).fdiv 60).fmod 9) (1 + ((cellR ns (6 + k)).fdiv 540).fmod 2)⟩
end MR
namespace MR
open PySem L2
noncomputable def mt (s t : Str) (v : Riv) : Bool := decide ((v.a = s ∧ v.b = t) ∨ (v.b = s ∧ v.a = t))
structure RvOk (ns : List Str) (v : Riv) : Prop where
  ha : v.a ∈ ns
  hb : v.b ∈ ns
  ne : v.a ≠ v.b
  pos : 0 < v.x
noncomputable def crV (vs : List Riv) (s t : Str) : Rat := ((vs.find? (mt s t)).map (·.x)).getD 0
end MR
namespace MR
open PySem L2
section
variable {ns : List Int}
noncomputable def dm (ns : List Int) (r : KR) : Mk := ⟨nN ns, fun i => (pd ns i).nm, fun i => (pd ns i).ow, fun i => (pd ns i).b, fun i => (pd ns i).o, fun i => (pd ns i).c, fun i j => crV (rvs ns) (pd ns i).nm (pd ns j).nm, kvD r⟩
end
end MR
namespace MR
open PySem L2
noncomputable abbrev keysR (r : KR) : List (List Key) := r.map (·.1)
structure KrFor (r : KR) (vs : List Riv) : Prop where
  nd : (keysR r).Nodup
  mem : ∀ k, k ∈ keysR r ↔ ∃ v ∈ vs, k = pair v.a v.b ∨ k = pair v.b v.a
  val : ∀ s t, valR r (pair s t) = (vs.find? (mt s t)).map (·.x)
structure NormV (vs : List Riv) : Prop where
  lt : ∀ v ∈ vs, ltS v.a v.b = true
  up : vs.Pairwise fun v w => TX.lexT [v.a, v.b] [w.a, w.b] = true
end MR
namespace MR
open PySem L2
noncomputable def nmsM (m : Mk) : List Str := (List.range m.n).map m.nm
structure MkW (m : Mk) (vs : List Riv) : Prop where
  n1 : 1 ≤ m.n
  n6 : m.n ≤ 6
  nm : ∀ i, i < m.n → isNm (m.nm i) = true
  ow : ∀ i, i < m.n → isNm (m.ow i) = true
  rise : ∀ i j, i < j → j < m.n → ltS (m.nm i) (m.nm j) = true
  wb : ∀ i, i < m.n → Wd (m.b i)
  wo : ∀ i, i < m.n → Wd (m.o i)
  wc : ∀ i, i < m.n → Wd (m.c i)
  pb : ∀ i, i < m.n → 0 < m.b i
  po : ∀ i, i < m.n → 0 < m.o i
  pc : ∀ i, i < m.n → 0 ≤ m.c i
  rv : ∀ v ∈ vs, RvOk (nmsM m) v
  norm : NormV vs
  len : vs.length < 32
  kr : ∃ r, m.kv = kvD r ∧ KrFor r vs
  cr : ∀ i j, i < m.n → j < m.n → m.cr i j = crV vs (m.nm i) (m.nm j)
  dom : ∀ i, i < m.n → sm m.n (m.cr i) < m.o i
  xs : ∃ D B, 0 < D ∧ D < 2 ^ 1000 ∧ B < 2 ^ 1000 ∧ ∀ v ∈ vs, Cn D B v.x
section
variable {m : Mk} {vs : List Riv}
theorem MkW.nd (h : MkW m vs) : (nmsM m).Pairwise fun a b => ltS a b = true := by
  unfold nmsM
  rw [List.pairwise_map]
  exact List.pairwise_lt_range.imp_of_mem fun {a b} ha hb hab => h.rise a b hab (List.mem_range.mp hb)
noncomputable def chgM (m : Mk) (ow : Nat → Str) (c : Nat → Rat) (kv : List (List Key × D)) : Mk := { m with ow := ow, c := c, kv := kv }
theorem crV_find {r : KR} {s t : Str} (h : KrFor r vs) : (valR r (pair s t)).getD 0 = crV vs s t := by
  rw [h.val]
  rfl
end
end MR
namespace MR
open PySem L2
section
variable {m : Mk} {vs : List Riv} {D B : Nat}
theorem MkOk.chg (k : MkOk m D B) {ow : Nat → Str} {c : Nat → Rat} {kv : List (List Key × MR.D)} (w : MkW (chgM m ow c kv) vs) (hc : ∀ i, i < m.n → Cn D B (c i)) : MkOk (chgM m ow c kv) D B := by
  obtain ⟨r, hr, kf⟩ := w.kr
  have hr' : kv = kvD r := hr
  refine ⟨k.n1, k.n6, k.rise, fun i j hi hj => ?_, k.self, k.D0, k.D1, k.B1, k.bb, k.bo, hc, k.bx⟩
  show (valD kv (pair (m.nm i) (m.nm j))).getD (rq 0) = rq (m.cr i j)
  have e : m.cr i j = crV vs (m.nm i) (m.nm j) := w.cr i j hi hj
  rw [hr', valD_kvD, e, ← crV_find kf]
  cases valR r (pair (m.nm i) (m.nm j)) <;> rfl
noncomputable def mgO (m : Mk) (a b n : Str) (i : Nat) : Str := if m.ow i = a ∨ m.ow i = b then n else m.ow i
noncomputable def mgM (m : Mk) (a b n : Str) (kv : List (List Key × MR.D)) : Mk := chgM m (mgO m a b n) m.c kv
end
end MR
namespace MR
open PySem L2
section
variable {m : Mk} {x y : Nat → Rat}
theorem sm_pick {n r : Nat} {k : Rat} (hr : r < n) : sm n (fun c => (if c = r then k else 0) * x c) = k * x r := by
  rw [sm_one hr fun c _ hc => by simp [hc, Rat.zero_mul]]
  simp
end
end MR
namespace MR
open PySem L2
section
variable {ns : List Int}
theorem EqOk.chg {m : Mk} {D B M : Nat} (q : EqOk m D B M) {ow : Nat → Str} {c : Nat → Rat} {kv : List (List Key × MR.D)} : EqOk (chgM m ow c kv) D B M := ⟨q.pos, q.sym, q.dom, q.mo, q.mx, q.s1, q.s2, q.s3⟩
end
end MR
namespace MR
open PySem L2
theorem MkOk.mg {m : Mk} {vs : List Riv} {D B : Nat} (k : MkOk m D B) {a b n : Str} {kv : List (List Key × MR.D)} (w : MkW (mgM m a b n kv) vs) : MkOk (mgM m a b n kv) D B := k.chg w k.bc
end MR
namespace MR
open PySem L2
theorem div_two (x d F : Rat) (hd : d ≠ 0) (hF : F ≠ 0) : x / (d * F) = x / d / F := by grind
theorem sub_over (x p y F : Rat) : x / F - p * (y / F) = (x - p * y) / F := by
  rw [Rat.div_def, Rat.div_def, Rat.div_def]
  grind
theorem elim_keyF (d1 d2 w s v a u F : Rat) (h1 : d1 ≠ 0) (h2 : d2 ≠ 0) (h3 : w ≠ 0) (h4 : s ≠ 0) (h5 : F ≠ 0) : v / (d1 * F) - (a / d1) / (w / d2) * (u / (d2 * F)) = s * (v * w - a * u) / (d1 * (s * w) * F) := by
  have z : d1 * (s * w) ≠ 0 := fun z => by
    rcases Rat.mul_eq_zero.mp z with y | y
    · exact h1 y
    · rcases Rat.mul_eq_zero.mp y with y | y
      · exact h4 y
      · exact h3 y
  rw [div_two v d1 F h1 h5, div_two u d2 F h2 h5, sub_over, elim_key d1 d2 w s v a u h1 h2 h3 h4, div_two _ _ F z h5]
noncomputable def RwF (b f n F : Nat) (g : Nat → Rat) : Prop := ∃ D : Nat, 0 < D ∧ D < 2 ^ b ∧ (∀ c, c < n → Cd D b (g c)) ∧ Cd (D * F) (b + f) (g n)
section
variable {b f n F : Nat} {g h : Nat → Rat}
theorem RwF.num (hg : RwF b f n F g) {c : Nat} (hc : c < n) : (g c).num.natAbs < 2 ^ b := by
  obtain ⟨D, D0, hD, h1, h2⟩ := hg
  obtain ⟨m, e, hm⟩ := h1 c hc
  rw [e]
  exact Nat.lt_of_le_of_lt (divInt_n (by omega)) hm
theorem RwF.mono (hg : RwF b f n F g) {d : Nat} (e : b ≤ d) : RwF d f n F g := by
  obtain ⟨D, D0, hD, h1, h2⟩ := hg
  refine ⟨D, D0, p2 hD e, fun c hc => ?_, ?_⟩
  · obtain ⟨m, e1, e2⟩ := h1 c hc
    exact ⟨m, e1, p2 e2 e⟩
  · obtain ⟨m, e1, e2⟩ := h2
    exact ⟨m, e1, p2 e2 (by omega)⟩
theorem RwF.elim (hf : RwF b f n F g) (hg : RwF b f n F h) (F0 : 0 < F) {i : Nat} (ha : i < n) (h0 : h i ≠ 0) : RwF (b + b + 1) f n F fun c => g c - g i / h i * h c := by
  obtain ⟨D, D0, hD, hF1, hF2⟩ := hf
  obtain ⟨D', D0', hD', hG1, hG2⟩ := hg
  obtain ⟨a, ea, ha1⟩ := hF1 i ha
  obtain ⟨w, ew, hw⟩ := hG1 i ha
  have w0 : w ≠ 0 := fun z => h0 (by rw [ew, z, Rat.zero_divInt])
  have hDw : D * w.natAbs < 2 ^ (b + b + 1) := p2 (mul_bits hD hw) (by omega)
  obtain ⟨s, hs, es⟩ : ∃ s : Int, (s = 1 ∨ s = -1) ∧ (w.natAbs : Int) = s * w := by
    by_cases h : 0 < w
    · exact ⟨1, .inl rfl, by omega⟩
    · exact ⟨-1, .inr rfl, by omega⟩
  have dD : ((D : Int) : Rat) ≠ 0 := fun z => by
    have : (D : Int) = 0 := by exact_mod_cast z
    omega
  have dD' : ((D' : Int) : Rat) ≠ 0 := fun z => by
    have : (D' : Int) = 0 := by exact_mod_cast z
    omega
  have dF : ((F : Int) : Rat) ≠ 0 := fun z => by
    have : (F : Int) = 0 := by exact_mod_cast z
    omega
  have dw : (w : Rat) ≠ 0 := fun z => w0 (by exact_mod_cast z)
  have ds : (s : Rat) ≠ 0 := fun z => by
    have : s = 0 := by exact_mod_cast z
    omega
  have hn : ∀ (x : Int) (y : Int), Rat.divInt x y = (x : Rat) / (y : Rat) := Rat.divInt_eq_div
  have sz : ∀ {k : Nat} {v u : Int}, v.natAbs < 2 ^ k → u.natAbs < 2 ^ k → (s * (v * w - a * u)).natAbs < 2 ^ (b + k + 1) := fun {k v u} hv hu => by
    have z1 := mul_bitsI hv hw
    have z2 := mul_bitsI ha1 hu
    rw [Nat.add_comm k b] at z1
    have z3 := sub_bitsI z1 z2
    rcases hs with rfl | rfl
    · rw [Int.one_mul]; exact z3
    · rw [Int.neg_one_mul, Int.natAbs_neg]; exact z3
  refine ⟨D * w.natAbs, Nat.mul_pos D0 (by omega), hDw, fun c hc => ?_, ?_⟩
  · obtain ⟨v, ev, hv⟩ := hF1 c hc
    obtain ⟨u, eu, hu⟩ := hG1 c hc
    refine ⟨s * (v * w - a * u), ?_, by have := sz hv hu; rwa [show b + b + 1 = b + b + 1 from rfl]⟩
    show g c - g i / h i * h c = _
    rw [ev, ea, ew, eu, show ((D * w.natAbs : Nat) : Int) = (D : Int) * (s * w) by rw [Int.natCast_mul, es]]
    simp only [hn]
    have c1 : ((s * (v * w - a * u) : Int) : Rat) = (s : Rat) * ((v : Rat) * w - a * u) := by push_cast; rfl
    have c2 : (((D : Int) * (s * w) : Int) : Rat) = ((D : Int) : Rat) * ((s : Rat) * w) := by push_cast; rfl
    rw [c1, c2]
    exact elim_key _ _ _ _ _ _ _ dD dD' dw ds
  · obtain ⟨v, ev, hv⟩ := hF2
    obtain ⟨u, eu, hu⟩ := hG2
    refine ⟨s * (v * w - a * u), ?_, by have := sz hv hu; rwa [show b + (b + f) + 1 = b + b + 1 + f by omega] at this⟩
    show g n - g i / h i * h n = _
    rw [ev, ea, ew, eu, show ((D * w.natAbs * F : Nat) : Int) = (D : Int) * (s * w) * F by rw [Int.natCast_mul, Int.natCast_mul, es]]
    simp only [hn]
    have c1 : ((s * (v * w - a * u) : Int) : Rat) = (s : Rat) * ((v : Rat) * w - a * u) := by push_cast; rfl
    have c2 : (((D : Int) * (s * w) * F : Int) : Rat) = ((D : Int) : Rat) * ((s : Rat) * w) * (F : Int) := by push_cast; rfl
    have c3 : ∀ E : Nat, (((E * F : Nat) : Int) : Rat) = ((E : Int) : Rat) * ((F : Int) : Rat) := fun E => by push_cast; rfl
    rw [c1, c2, c3, c3]
    exact elim_keyF _ _ _ _ _ _ _ _ dD dD' dw ds dF
end
end MR
namespace MR
open PySem L2
section
variable {n d M : Nat} {A : Tb}
theorem cn_of_prod {E F K : Nat} {x : Rat} {k : Int} (h : (E : Rat) * ((F : Rat) * x) = (k : Rat)) (E0 : 0 < E) (F0 : 0 < F) (hk : k.natAbs ≤ K) : Cn (E * F) K x := by
  refine ⟨k, ?_, hk⟩
  rw [Rat.divInt_eq_div, ← h]
  have e1 : (((E * F : Nat) : Int) : Rat) = (E : Rat) * (F : Rat) := by push_cast; rfl
  rw [e1]
  have a : (E : Rat) ≠ 0 := fun z => by
    have : E = 0 := by exact_mod_cast z
    omega
  have b : (F : Rat) ≠ 0 := fun z => by
    have : F = 0 := by exact_mod_cast z
    omega
  have k : ∀ e f x : Rat, e ≠ 0 → f ≠ 0 → x = e * (f * x) / (e * f) := fun e f x h1 h2 => by grind
  exact k _ _ _ a b
end
end MR
namespace MR
open PySem L2
noncomputable def mxR (a b : Rat) : Rat := if a < b then b else a
noncomputable def mnR (a b : Rat) : Rat := if b < a then b else a
theorem le_mxR {a b t : Rat} : mxR a b ≤ t ↔ a ≤ t ∧ b ≤ t := by
  unfold mxR
  split <;> constructor <;> intro h
  · exact ⟨Rat.le_trans (Rat.le_of_lt (by assumption)) h, h⟩
  · exact h.2
  · rename_i q
    exact ⟨h, Rat.le_trans (Rat.not_lt.mp q) h⟩
  · exact h.1
theorem le_mnR {a b t : Rat} : t ≤ mnR a b ↔ t ≤ a ∧ t ≤ b := by
  unfold mnR
  split <;> constructor <;> intro h
  · exact ⟨Rat.le_trans h (Rat.le_of_lt (by assumption)), h⟩
  · exact h.2
  · rename_i q
    exact ⟨h, Rat.le_trans h (Rat.not_lt.mp q)⟩
  · exact h.1
section
variable {bd pr le : Nat → Rat}
noncomputable def fallR (pr le : Nat → Rat) (i : Nat) : Rat := pr i - le i
noncomputable def needR (bd pr : Nat → Rat) (i : Nat) : Rat := pr i - bd i
noncomputable def cutK (bd pr le : Nat → Rat) : Nat → Option (Rat × Rat)
  | 0 => some (0, 1)
  | k + 1 => match cutK bd pr le k with
    | none => none
    | some (lo, hi) => if fallR pr le k = 0 then (if 0 < needR bd pr k then none else some (lo, hi))
      else if 0 < fallR pr le k then some (mxR lo (needR bd pr k / fallR pr le k), hi) else some (lo, mnR hi (needR bd pr k / fallR pr le k))
noncomputable def fitsK (bd pr le : Nat → Rat) (k : Nat) (t : Rat) : Prop := ∀ i, i < k → pr i - t * fallR pr le i ≤ bd i
theorem div_le_of {n f t : Rat} (h : 0 < f) : n / f ≤ t ↔ n ≤ t * f := by
  have e : n / f * f = n := by
    have : f ≠ 0 := fun z => by rw [z] at h; exact absurd h (by decide)
    exact Rat.div_mul_cancel this
  constructor
  · intro q
    have := Rat.mul_le_mul_of_nonneg_right q (Rat.le_of_lt h)
    rwa [e] at this
  · intro q
    refine Rat.not_lt.mp fun z => ?_
    have := Rat.mul_lt_mul_of_pos_right z h
    rw [e] at this
    exact absurd q (Rat.not_le.mpr this)
theorem le_div_neg {n f t : Rat} (h : f < 0) : t ≤ n / f ↔ n ≤ t * f := by
  have f0 : f ≠ 0 := fun z => by rw [z] at h; exact absurd h (by decide)
  have e : n / f * f = n := Rat.div_mul_cancel f0
  have hn : 0 < -f := by grind
  constructor
  · intro q
    have := Rat.mul_le_mul_of_nonneg_right q (Rat.le_of_lt hn)
    rw [Rat.mul_neg, Rat.mul_neg, e] at this
    grind
  · intro q
    refine Rat.not_lt.mp fun z => ?_
    have := Rat.mul_lt_mul_of_pos_right z hn
    rw [Rat.mul_neg, Rat.mul_neg, e] at this
    grind
theorem cutK_some : ∀ {k : Nat} {lo hi : Rat}, cutK bd pr le k = some (lo, hi) → (∀ t, 0 ≤ t → t ≤ 1 → (fitsK bd pr le k t ↔ lo ≤ t ∧ t ≤ hi)) ∧ 0 ≤ lo ∧ hi ≤ 1 ∧
    (0 < lo → ∃ i, i < k ∧ 0 < fallR pr le i ∧ needR bd pr i = lo * fallR pr le i)
  | 0, lo, hi, h => by
    cases h
    exact ⟨fun t h0 h1 => ⟨fun _ => ⟨h0, h1⟩, fun _ i hi => absurd hi (Nat.not_lt_zero i)⟩, Rat.le_refl, Rat.le_refl, fun z => absurd z (by decide)⟩
  | k + 1, lo, hi, h => by
    unfold cutK at h
    cases q : cutK bd pr le k with
    | none => rw [q] at h; cases h
    | some p =>
      obtain ⟨l, u⟩ := p
      rw [q] at h
      obtain ⟨h1, h2, h3, h4⟩ := cutK_some q
      have fit : ∀ t, fitsK bd pr le (k + 1) t ↔ fitsK bd pr le k t ∧ needR bd pr k ≤ t * fallR pr le k := fun t => by
        constructor
        · intro z
          refine ⟨fun i hi => z i (by omega), ?_⟩
          have := z k (by omega)
          unfold needR
          grind
        · rintro ⟨z, y⟩ i hi
          by_cases e : i = k
          · subst e
            unfold needR at y
            grind
          · exact z i (by omega)
      simp only at h
      split at h
      · rename_i f0
        split at h
        · cases h
        · rename_i n0
          cases h
          refine ⟨fun t t0 t1 => ?_, h2, h3, fun z => ?_⟩
          · rw [fit, h1 t t0 t1, f0, Rat.mul_zero]
            exact ⟨fun z => z.1, fun z => ⟨z, Rat.not_lt.mp n0⟩⟩
          · obtain ⟨i, a, b, c⟩ := h4 z
            exact ⟨i, by omega, b, c⟩
      · rename_i f0
        split at h
        · rename_i fp
          cases h
          refine ⟨fun t t0 t1 => ?_, ?_, h3, fun z => ?_⟩
          · rw [fit, h1 t t0 t1, le_mxR, div_le_of fp]
            exact ⟨fun ⟨⟨a, b⟩, c⟩ => ⟨⟨a, c⟩, b⟩, fun ⟨⟨a, c⟩, b⟩ => ⟨⟨a, b⟩, c⟩⟩
          · exact Rat.le_trans h2 (le_mxR.mp Rat.le_refl).1
          · by_cases e : l < needR bd pr k / fallR pr le k
            · refine ⟨k, by omega, fp, ?_⟩
              unfold mxR
              rw [if_pos e, Rat.div_mul_cancel f0]
            · have e2 : mxR l (needR bd pr k / fallR pr le k) = l := by unfold mxR; rw [if_neg e]
              rw [e2] at z ⊢
              obtain ⟨i, a, b, c⟩ := h4 z
              exact ⟨i, by omega, b, c⟩
        · rename_i fn
          have fneg : fallR pr le k < 0 := by
            have := Rat.not_lt.mp fn
            rcases Rat.le_iff_lt_or_eq.mp this with z | z
            · exact z
            · exact absurd z f0
          cases h
          refine ⟨fun t t0 t1 => ?_, h2, Rat.le_trans (le_mnR.mp Rat.le_refl).1 h3, fun z => ?_⟩
          · rw [fit, h1 t t0 t1, le_mnR, le_div_neg fneg]
            exact ⟨fun ⟨⟨a, b⟩, c⟩ => ⟨a, b, c⟩, fun ⟨a, b, c⟩ => ⟨⟨a, b⟩, c⟩⟩
          · obtain ⟨i, a, b, c⟩ := h4 z
            exact ⟨i, by omega, b, c⟩
noncomputable def cutR (bd pr le : Nat → Rat) (n : Nat) : Option Rat := match cutK bd pr le n with
  | none => none
  | some (lo, hi) => if hi < lo then none else some lo
theorem cutR_some {n : Nat} {lo : Rat} (h : cutR bd pr le n = some lo) : 0 ≤ lo ∧ lo ≤ 1 ∧ fitsK bd pr le n lo ∧ (∀ t, 0 ≤ t → t < lo → ¬ fitsK bd pr le n t) ∧
    (0 < lo → ∃ i, i < n ∧ pr i - lo * fallR pr le i = bd i ∧ bd i < pr i ∧ 0 < fallR pr le i ∧ lo = needR bd pr i / fallR pr le i) := by
  unfold cutR at h
  cases q : cutK bd pr le n with
  | none => rw [q] at h; cases h
  | some p =>
    obtain ⟨l, hi⟩ := p
    rw [q] at h
    simp only at h
    split at h
    · cases h
    · rename_i nl
      cases h
      obtain ⟨h1, h2, h3, h4⟩ := cutK_some q
      have lh := Rat.not_lt.mp nl
      have l1 := Rat.le_trans lh h3
      refine ⟨h2, l1, (h1 lo h2 l1).mpr ⟨Rat.le_refl, lh⟩, fun t t0 tl z => ?_, fun z => ?_⟩
      · have := ((h1 t t0 (Rat.le_trans (Rat.le_of_lt tl) l1)).mp z).1
        exact absurd tl (Rat.not_lt.mpr this)
      · obtain ⟨i, a, b, c⟩ := h4 z
        have p0 : 0 < lo * fallR pr le i := Rat.mul_pos z b
        have f0 : fallR pr le i ≠ 0 := fun y => by rw [y] at b; exact absurd b (by decide)
        refine ⟨i, a, ?_, ?_, b, ?_⟩
        · rw [← c]; unfold needR; grind
        · rw [← c] at p0; unfold needR at p0; grind
        · rw [c, Rat.mul_div_cancel f0]
end
end MR
namespace MR
open PySem L2
theorem cn_inv {D M : Nat} {w : Rat} (h : Cn D M w) (D0 : 0 < D) (h0 : w ≠ 0) : ∃ k : Nat, 0 < k ∧ k ≤ M ∧ Cn k D (1 / w) := by
  obtain ⟨k, e, hk⟩ := h.num D0
  have dn : (D : Rat) ≠ 0 := fun z => by
    have : D = 0 := by exact_mod_cast z
    omega
  have kn : (k : Rat) ≠ 0 := fun z => by
    rw [z] at e
    rcases Rat.mul_eq_zero.mp e with a | a
    · exact dn a
    · exact h0 a
  have kn2 : k ≠ 0 := fun z => kn (by rw [z]; rfl)
  obtain ⟨s, hs, es⟩ : ∃ s : Int, (s = 1 ∨ s = -1) ∧ (k.natAbs : Int) = s * k := by
    by_cases h : 0 < k
    · exact ⟨1, .inl rfl, by omega⟩
    · exact ⟨-1, .inr rfl, by omega⟩
  refine ⟨k.natAbs, by omega, hk, s * D, ?_, by rcases hs with rfl | rfl <;> omega⟩
  rw [es, Rat.divInt_eq_div]
  have sn : (s : Rat) ≠ 0 := fun z => by
    have : s = 0 := by exact_mod_cast z
    omega
  have e2 : ((s * D : Int) : Rat) = (s : Rat) * (D : Rat) := by push_cast; rfl
  have e3 : ((s * k : Int) : Rat) = (s : Rat) * ((D : Rat) * w) := by rw [e]; push_cast; rfl
  rw [e2, e3]
  have k : ∀ s d w : Rat, s ≠ 0 → d ≠ 0 → w ≠ 0 → 1 / w = s * d / (s * (d * w)) := fun s d w h1 h2 h3 => by grind
  exact k _ _ _ sn dn h0
theorem cn_part {F B : Nat} {t : Rat} (h : Cn F B t) (F0 : 0 < F) (t0 : 0 ≤ t) (t1 : t ≤ 1) : Cn F F t := by
  obtain ⟨k, e, _⟩ := h.num F0
  have fp : (0 : Rat) ≤ (F : Rat) := by exact_mod_cast Nat.zero_le _
  have k0 : 0 ≤ k := by
    have : (0 : Rat) ≤ (k : Rat) := by rw [← e]; exact Rat.mul_nonneg fp t0
    exact_mod_cast this
  have k1 : k ≤ (F : Int) := by
    have : (k : Rat) ≤ (F : Rat) * 1 := by rw [← e]; exact Rat.mul_le_mul_of_nonneg_left t1 fp
    rw [Rat.mul_one] at this
    exact_mod_cast this
  have := cn_of_prod (E := 1) (F := F) (K := F) (x := t) (k := k) (by rw [e]; simp) (by decide) F0 (by omega)
  rwa [Nat.one_mul] at this
structure CutOk (n : Nat) (E K E' C' : Nat) (bd pr le : Nat → Rat) : Prop where
  n6 : n ≤ 6
  E0 : 0 < E
  E1 : E < 2 ^ 940
  E0' : 0 < E'
  E1' : E' < 2 ^ 940
  K1 : K < 2 ^ 1000
  C1 : C' < 2 ^ 6000
  bd : ∀ i, i < n → Cn E' C' (bd i)
  pr : ∀ i, i < n → Cn E K (pr i)
  le : ∀ i, i < n → Cn E K (le i)
section
variable {n E K E' C' : Nat} {bd pr le : Nat → Rat}
theorem CutOk.need (h : CutOk n E K E' C' bd pr le) {i : Nat} (hi : i < n) : Cn (E * E') (K * E' + C' * E) (needR bd pr i) := by
  have a := (h.pr i hi).wider h.E0'
  have b := (h.bd i hi).wider h.E0
  rw [Nat.mul_comm E' E] at b
  exact a.sub b (Nat.mul_pos h.E0 h.E0')
theorem CutOk.fall (h : CutOk n E K E' C' bd pr le) {i : Nat} (hi : i < n) : Cn E (K + K) (fallR pr le i) := (h.pr i hi).sub (h.le i hi) h.E0
theorem CutOk.quot (h : CutOk n E K E' C' bd pr le) {i : Nat} (hi : i < n) (h0 : fallR pr le i ≠ 0) : ∃ F B : Nat, 0 < F ∧ F < 2 ^ 1945 ∧ B < 2 ^ 8000 ∧ Cn F B (needR bd pr i / fallR pr le i) := by
  obtain ⟨k, k0, k1, c⟩ := cn_inv (h.fall hi) h.E0 h0
  obtain ⟨a, ea, ha⟩ := (h.need hi).num (Nat.mul_pos h.E0 h.E0')
  obtain ⟨b, eb, hb⟩ := c.num k0
  obtain ⟨g, eg, hg⟩ := (h.fall hi).num h.E0
  have en : (E : Rat) ≠ 0 := fun z => by
    have : E = 0 := by exact_mod_cast z
    have := h.E0
    omega
  have gn : (g : Rat) ≠ 0 := fun z => by
    rw [z] at eg
    rcases Rat.mul_eq_zero.mp eg with y | y
    · exact en y
    · exact h0 y
  have gn2 : g ≠ 0 := fun z => gn (by rw [z]; rfl)
  obtain ⟨s, hs, es⟩ : ∃ s : Int, (s = 1 ∨ s = -1) ∧ (g.natAbs : Int) = s * g := by
    by_cases h : 0 < g
    · exact ⟨1, .inl rfl, by omega⟩
    · exact ⟨-1, .inr rfl, by omega⟩
  have e1 : ((E' * g.natAbs : Nat) : Rat) = (E' : Rat) * ((s : Rat) * (g : Rat)) := by
    have : ((E' * g.natAbs : Nat) : Rat) = (((E' : Int) * (g.natAbs : Int) : Int) : Rat) := by push_cast; rfl
    rw [this, es]
    push_cast
    rfl
  have e2 : ((E * E' : Nat) : Rat) = (E : Rat) * (E' : Rat) := by push_cast; rfl
  have fin : (1 : Rat) * (((E' * g.natAbs : Nat) : Rat) * (needR bd pr i / fallR pr le i)) = ((s * a : Int) : Rat) := by
    have e3 : ((s * a : Int) : Rat) = (s : Rat) * (a : Rat) := by push_cast; rfl
    rw [Rat.one_mul, e1, e3, ← ea, ← eg, e2]
    have k : ∀ s x y e e' : Rat, y ≠ 0 → e ≠ 0 → e' * (s * (e * y)) * (x / y) = s * (e * e' * x) := fun s x y e e' h1 h2 => by grind
    exact k _ _ _ _ _ h0 en
  have g1 : g.natAbs < 2 ^ 1001 := Nat.lt_of_le_of_lt hg (add_lt h.K1 h.K1)
  have nb : K * E' + C' * E < 2 ^ 8000 := le_pow (add_lt (le_pow (mul_bits h.K1 h.E1') (l := 6940)) (mul_bits h.C1 h.E1))
  have cc := cn_of_prod (E := 1) (K := K * E' + C' * E) (k := s * a) (by simpa using fin) (by decide) (Nat.mul_pos h.E0' (show 0 < g.natAbs by omega)) (by rcases hs with rfl | rfl <;> omega)
  rw [Nat.one_mul] at cc
  exact ⟨E' * g.natAbs, _, Nat.mul_pos h.E0' (by omega), le_pow (mul_bits h.E1' g1), nb, cc⟩
end
end MR
namespace MR
open PySem L2
section
variable {A : Mk} {vs : List Riv} {nm : Str} {n E K E' C' : Nat} {bd pr le : Nat → Rat}
theorem CutOk.size (h : CutOk n E K E' C' bd pr le) {t : Rat} (c : cutR bd pr le n = some t) : 0 ≤ t ∧ t ≤ 1 ∧ ∃ F : Nat, 0 < F ∧ F < 2 ^ 1945 ∧ Cn F F t := by
  obtain ⟨t0, t1, _, _, q⟩ := cutR_some c
  refine ⟨t0, t1, ?_⟩
  rcases Rat.le_iff_lt_or_eq.mp t0 with z | z
  · obtain ⟨i, hi, _, _, f0, e⟩ := q z
    have fn : fallR pr le i ≠ 0 := fun y => by rw [y] at f0; exact absurd f0 (by decide)
    obtain ⟨F, B, F0, F1, _, cn⟩ := h.quot hi fn
    rw [← e] at cn
    exact ⟨F, F0, F1, cn_part cn F0 t0 t1⟩
  · refine ⟨1, by decide, Nat.one_lt_two_pow (by decide), 0, ?_, by decide⟩
    rw [← z]
    decide +kernel
end
end MR
namespace MR
open PySem L2
noncomputable def GoodP (p : Prd) : Prop := isNm p.nm = true ∧ isNm p.ow = true ∧ 0 < p.b ∧ 0 < p.o ∧ ¬ p.c < 0
structure PsOk (ps : List Prd) : Prop where
  l1 : 1 ≤ ps.length
  l6 : ps.length ≤ 6
  good : ∀ p ∈ ps, GoodP p
  rise : (ps.map (·.nm)).Pairwise fun a b => ltS a b = true
theorem PsOk.nd {ps : List Prd} (h : PsOk ps) : (ps.map (·.nm)).Nodup := by
  unfold List.Nodup
  exact h.rise.imp fun {a b} q z => by rw [z, ltS_irr] at q; cases q
end MR
namespace MR
open PySem L2
namespace DT
noncomputable def IB (C : Nat) (x : Rat) : Prop := ∃ z : Int, x = (z : Rat) ∧ z.natAbs ≤ C
theorem IB.mono {C C' : Nat} {x : Rat} (h : IB C x) (e : C ≤ C') : IB C' x := let ⟨z, a, b⟩ := h; ⟨z, a, Nat.le_trans b e⟩
theorem IB.mul {C C' : Nat} {x y : Rat} (h : IB C x) (h' : IB C' y) : IB (C * C') (x * y) := by
  obtain ⟨z, rfl, b⟩ := h
  obtain ⟨w, rfl, b'⟩ := h'
  exact ⟨z * w, (Rat.intCast_mul z w).symm, by rw [Int.natAbs_mul]; exact Nat.mul_le_mul b b'⟩
theorem IB.add {C C' : Nat} {x y : Rat} (h : IB C x) (h' : IB C' y) : IB (C + C') (x + y) := by
  obtain ⟨z, rfl, b⟩ := h
  obtain ⟨w, rfl, b'⟩ := h'
  exact ⟨z + w, (Rat.intCast_add z w).symm, by omega⟩
noncomputable def sg (r : Nat) : Rat := if r % 2 = 0 then 1 else -1
theorem sg_succ (r : Nat) : sg (r + 1) = - sg r := by
  unfold sg
  by_cases h : r % 2 = 0
  · rw [if_neg (by omega), if_pos h]
  · rw [if_pos (by omega), if_neg h]; decide
noncomputable def drop0 (M : Tb) (r : Nat) : Tb := fun i j => M (if i < r then i else i + 1) (j + 1)
noncomputable def det : Nat → Tb → Rat
  | 0, _ => 1
  | n + 1, M => sm (n + 1) fun r => sg r * M r 0 * det n (drop0 M r)
theorem det_zero (M : Tb) : det 0 M = 1 := rfl
theorem det_succ (n : Nat) (M : Tb) : det (n + 1) M = sm (n + 1) fun r => sg r * M r 0 * det n (drop0 M r) := rfl
theorem drop_lt {i r n : Nat} (h : i < n) : (if i < r then i else i + 1) < n + 1 := by split <;> omega
theorem det_congr : ∀ {n : Nat} {M N : Tb}, (∀ i, i < n → ∀ j, j < n → M i j = N i j) → det n M = det n N
  | 0, M, N, _ => rfl
  | n + 1, M, N, h => by
    rw [det_succ, det_succ]
    refine sm_congr fun r hr => ?_
    rw [h r hr 0 (by omega), det_congr (n := n) (M := drop0 M r) (N := drop0 N r) fun i hi j hj => h _ (drop_lt hi) _ (by omega)]
noncomputable def setR (M : Tb) (k : Nat) (f : Nat → Rat) : Tb := fun i => if i = k then f else M i
theorem drop_set_eq (M : Tb) (k : Nat) (f : Nat → Rat) : drop0 (setR M k f) k = drop0 M k := by
  funext i j
  show (if (if i < k then i else i + 1) = k then f else M (if i < k then i else i + 1)) (j + 1) = M (if i < k then i else i + 1) (j + 1)
  rw [if_neg (by split <;> omega)]
theorem drop_set_ne (M : Tb) {k r : Nat} (f : Nat → Rat) (h : k ≠ r) : drop0 (setR M k f) r = setR (drop0 M r) (if k < r then k else k - 1) (fun c => f (c + 1)) := by
  funext i j
  show (if (if i < r then i else i + 1) = k then f else M (if i < r then i else i + 1)) (j + 1) = (if i = (if k < r then k else k - 1) then (fun c => f (c + 1)) else drop0 M r i) j
  by_cases l : i < r
  · rw [if_pos l]
    by_cases e : i = k
    · rw [if_pos e, if_pos (by split <;> omega)]
    · rw [if_neg e, if_neg (by split <;> omega)]
      show _ = M (if i < r then i else i + 1) (j + 1)
      rw [if_pos l]
  · rw [if_neg l]
    by_cases e : i + 1 = k
    · rw [if_pos e, if_pos (by split <;> omega)]
    · rw [if_neg e, if_neg (by split <;> omega)]
      show _ = M (if i < r then i else i + 1) (j + 1)
      rw [if_neg l]
theorem det_lin : ∀ {n : Nat} {M : Tb} {k : Nat}, k < n → ∀ (a : Rat) (f g : Nat → Rat), det n (setR M k fun c => a * f c + g c) = a * det n (setR M k f) + det n (setR M k g)
  | 0, M, k, hk, _, _, _ => absurd hk (Nat.not_lt_zero _)
  | n + 1, M, k, hk, a, f, g => by
    rw [det_succ, det_succ, det_succ, ← sm_mull, ← sm_addf]
    refine sm_congr fun r hr => ?_
    by_cases e : r = k
    · subst e
      rw [drop_set_eq, drop_set_eq, drop_set_eq]
      have p : ∀ h : Nat → Rat, setR M r h r 0 = h 0 := fun h => by unfold setR; rw [if_pos rfl]
      rw [p, p, p]
      grind
    · have p : ∀ h : Nat → Rat, setR M k h r 0 = M r 0 := fun h => by unfold setR; rw [if_neg e]
      rw [p, p, p, drop_set_ne M _ (fun z => e z.symm), drop_set_ne M _ (fun z => e z.symm), drop_set_ne M _ (fun z => e z.symm),
        det_lin (n := n) (M := drop0 M r) (k := if k < r then k else k - 1) (by split <;> omega) a (fun c => f (c + 1)) (fun c => g (c + 1))]
      grind
theorem det_adj : ∀ {n : Nat} {M : Tb} {k : Nat}, k + 1 < n → (∀ j, j < n → M k j = M (k + 1) j) → det n M = 0
  | 0, M, k, hk, _ => absurd hk (Nat.not_lt_zero _)
  | n + 1, M, k, hk, h => by
    rw [det_succ, sm_two (i := k) (j := k + 1) (by omega) hk (by omega) fun r hr h1 h2 => ?_]
    · have e : det n (drop0 M k) = det n (drop0 M (k + 1)) := det_congr fun i hi j hj => by
        show M (if i < k then i else i + 1) (j + 1) = M (if i < k + 1 then i else i + 1) (j + 1)
        by_cases ei : i = k
        · subst ei
          rw [if_neg (by omega), if_pos (by omega)]
          exact (h (j + 1) (by omega)).symm
        · by_cases l : i < k
          · rw [if_pos l, if_pos (by omega)]
          · rw [if_neg l, if_neg (by omega)]
      rw [e, sg_succ, h 0 (by omega)]
      grind
    · have z : det n (drop0 M r) = 0 := by
        by_cases l : r < k
        · refine det_adj (k := k - 1) (by omega) fun j hj => ?_
          show M (if k - 1 < r then k - 1 else k - 1 + 1) (j + 1) = M (if k - 1 + 1 < r then k - 1 + 1 else k - 1 + 1 + 1) (j + 1)
          rw [if_neg (by omega), if_neg (by omega), show k - 1 + 1 = k by omega]
          exact h (j + 1) (by omega)
        · refine det_adj (k := k) (by omega) fun j hj => ?_
          show M (if k < r then k else k + 1) (j + 1) = M (if k + 1 < r then k + 1 else k + 1 + 1) (j + 1)
          rw [if_pos (by omega), if_pos (by omega)]
          exact h (j + 1) (by omega)
      rw [z, Rat.mul_zero]
theorem setR_comm {M : Tb} {k l : Nat} {f g : Nat → Rat} (h : k ≠ l) : setR (setR M k f) l g = setR (setR M l g) k f := by
  funext i
  unfold setR
  by_cases e : i = k
  · subst e
    rw [if_neg h, if_pos rfl, if_pos rfl]
  · rw [if_neg e]
    by_cases e2 : i = l
    · rw [if_pos e2, if_neg e]
    · rw [if_neg e2, if_neg e]
theorem setR_self {M : Tb} {k : Nat} : setR M k (M k) = M := by
  funext i
  unfold setR
  split
  · rename_i e; rw [e]
  · rfl
theorem det_swap {n : Nat} {M : Tb} {k : Nat} (hk : k + 1 < n) : det n (swapT M k (k + 1)) = - det n M := by
  have ne : k ≠ k + 1 := by omega
  let S : (Nat → Rat) → (Nat → Rat) → Tb := fun f g => setR (setR M k f) (k + 1) g
  have z : ∀ h, det n (S h h) = 0 := fun h => det_adj hk fun j _ => by
    show setR (setR M k h) (k + 1) h k j = setR (setR M k h) (k + 1) h (k + 1) j
    unfold setR
    rw [if_neg ne, if_pos rfl, if_pos rfl]
  have l2 : ∀ p f g, det n (S p fun c => 1 * f c + g c) = 1 * det n (S p f) + det n (S p g) := fun p f g => det_lin hk 1 f g
  have l1 : ∀ p f g, det n (S (fun c => 1 * f c + g c) p) = 1 * det n (S f p) + det n (S g p) := fun p f g => by
    show det n (setR (setR M k _) (k + 1) p) = 1 * det n (setR (setR M k f) (k + 1) p) + det n (setR (setR M k g) (k + 1) p)
    rw [setR_comm ne, setR_comm ne, setR_comm ne]
    exact det_lin (by omega) 1 f g
  have e1 : S (M k) (M (k + 1)) = M := by
    show setR (setR M k (M k)) (k + 1) (M (k + 1)) = M
    rw [setR_self, setR_self]
  have e2 : S (M (k + 1)) (M k) = swapT M k (k + 1) := by
    funext i
    show setR (setR M k (M (k + 1))) (k + 1) (M k) i = if i = k then M (k + 1) else if i = k + 1 then M k else M i
    unfold setR
    by_cases a : i = k
    · rw [if_neg (by omega), if_pos a, if_pos a]
    · by_cases b : i = k + 1
      · rw [if_pos b, if_neg a, if_pos b]
      · rw [if_neg b, if_neg a, if_neg a, if_neg b]
  have t := z fun c => 1 * M k c + M (k + 1) c
  rw [l2, l1, l1, z, z, e1, e2] at t
  grind
theorem det_alt : ∀ (d : Nat) {n : Nat} {M : Tb} {p : Nat}, p + 1 + d < n → (∀ j, j < n → M p j = M (p + 1 + d) j) → det n M = 0
  | 0, n, M, p, hp, h => det_adj hp h
  | d + 1, n, M, p, hp, h => by
    have s := det_swap (n := n) (M := M) (k := p + 1 + d) (by omega)
    have z := det_alt d (n := n) (M := swapT M (p + 1 + d) (p + 1 + d + 1)) (p := p) (by omega) fun j hj => by
      show (if p = p + 1 + d then M (p + 1 + d + 1) else if p = p + 1 + d + 1 then M (p + 1 + d) else M p) j = (if p + 1 + d = p + 1 + d then M (p + 1 + d + 1) else if p + 1 + d = p + 1 + d + 1 then M (p + 1 + d) else M (p + 1 + d)) j
      rw [if_neg (by omega), if_neg (by omega), if_pos rfl]
      exact h j hj
    rw [z] at s
    grind
theorem det_same {n : Nat} {M : Tb} {p q : Nat} (hp : p < n) (hq : q < n) (ne : p ≠ q) (h : ∀ j, j < n → M p j = M q j) : det n M = 0 := by
  by_cases l : p < q
  · exact det_alt (q - p - 1) (n := n) (M := M) (p := p) (by omega) fun j hj => by rw [show p + 1 + (q - p - 1) = q by omega]; exact h j hj
  · exact det_alt (p - q - 1) (n := n) (M := M) (p := q) (by omega) fun j hj => by rw [show q + 1 + (p - q - 1) = p by omega]; exact (h j hj).symm
theorem det_none {n : Nat} {M : Tb} {k : Nat} (hk : k < n) : det n (setR M k fun _ => 0) = 0 := by
  have l := det_lin (n := n) (M := M) hk 1 (fun _ => 0) (fun _ => 0)
  have e : (fun c : Nat => (1 : Rat) * (fun _ : Nat => (0 : Rat)) c + (fun _ : Nat => (0 : Rat)) c) = fun _ => 0 := by funext c; grind
  rw [e] at l
  grind
theorem det_comb {n : Nat} {M : Tb} {k : Nat} {μ : Nat → Rat} (hk : k < n) : ∀ t, t ≤ n → det n (setR M k fun c => sm t fun j => μ j * M j c) = if k < t then μ k * det n M else 0
  | 0, _ => by
    rw [if_neg (Nat.not_lt_zero _)]
    have e : (fun c : Nat => sm 0 fun j => μ j * M j c) = fun _ => 0 := by funext c; exact sm_zero _
    rw [e]
    exact det_none hk
  | t + 1, ht => by
    have e : (fun c : Nat => sm (t + 1) fun j => μ j * M j c) = fun c => μ t * M t c + (fun c => sm t fun j => μ j * M j c) c := by
      funext c
      rw [sm_succ]
      grind
    rw [e, det_lin hk (μ t) (M t) (fun c => sm t fun j => μ j * M j c), det_comb hk t (by omega)]
    by_cases a : t = k
    · subst a
      rw [setR_self, if_neg (by omega), if_pos (by omega), Rat.add_zero]
    · have z : det n (setR M k (M t)) = 0 := det_same (p := k) (q := t) hk (by omega) (fun z => a z.symm) fun j _ => by
        unfold setR
        rw [if_pos rfl, if_neg a]
      rw [z, Rat.mul_zero, Rat.zero_add]
      by_cases b : k < t
      · rw [if_pos b, if_pos (by omega)]
      · rw [if_neg b, if_neg (by omega)]
theorem cramer {n : Nat} {M : Tb} {k : Nat} {μ v : Nat → Rat} (hk : k < n) (h : ∀ c, c < n → v c = sm n fun j => μ j * M j c) : det n (setR M k v) = μ k * det n M := by
  have t := det_comb (M := M) (μ := μ) hk n (Nat.le_refl _)
  rw [if_pos hk] at t
  rw [← t]
  refine det_congr fun i _ j hj => ?_
  unfold setR
  split
  · exact h j hj
  · rfl
end DT
end MR
namespace K15
open PySem L2 MR
noncomputable abbrev tags : List Nat := [0, 1]
noncomputable def b__law_rows_C0e : ME :=
  (mCall RV.m__law_small [] (mCons (mCall RV.m__law_cell [] (mCons (mVar 0) (mCons (mOp fAdd (mOp fAdd (mVar 1) (mOp (fIntC CMulX (· * ·)) (mVar 2) (mVar 4))) (mVar 5)) mNil))) mNil))
noncomputable def b__law_rows_C0 : ME :=
  (mLc (mRng rng1 (mCons (mVar 2) mNil)) (bName 5) mYes b__law_rows_C0e [.d, .d, .d, .w (.l (.all (.l (.all .d)))), .d, .x])
noncomputable def b__law_rows_L0 : MS :=
  (mKeep [.d, .d, .d, .w (.l (.all (.l (.all .d)))), .x, .x] (mDrop (mWApp 3 b__law_rows_C0)))
noncomputable def b__law_rows : MS :=
  (mSeq (mAsg 3 (mNilW (mLst mNil)))
  (mSeq (mFor (mRng rng1 (mCons (mVar 2) mNil)) (bName 4) b__law_rows_L0)
  (mRetW 3)))
noncomputable def m__law_rows : MP := mDef (.w (.l (.all (.l (.all .d))))) 3 b__law_rows
noncomputable def b__law_raises : MS :=
  (mSeq (mTry tags 1 [.x, .x, .x] (mKeep [.x, .x, .x] (mDrop (mCall RV.m_solve [] (mCons (mVar 0) (mCons (mVar 1) mNil))))) (fun e => (mRet (mC (.bl (errIs e 8))))))
  (mRet (mC (.bl false))))
noncomputable def m__law_raises : MP := mDef .d 1 b__law_raises
noncomputable def b__law_great_C0e : ME :=
  (mTup (mCons (mCB fAbs (mCons (mOp fIx (mVar 9) (mC (.int 0))) mNil)) (mCons (mOp fIx (mVar 9) (mC (.int 1))) mNil)))
noncomputable def b__law_great_C0 : ME :=
  (mLc (mItL (mOp fIx (mVar 2) (mVar 3))) (bName 9) mYes b__law_great_C0e [.d, .d, .d, .d, .x, .x, .x, .x, .x, .x, .x])
noncomputable def b__law_great_L0 : MS :=
  (mKeep [.d, .d, .w (.l (.all (.l (.all .d)))), .x, .x, .x, .x, .x, .x, .x, .x] (mPSet (plV 2 3) (mVar 3) (mSee .d (mCall RV.m__law_sum [] (mCons (mOp fAdd b__law_great_C0 (mLst (mCons (mTup (mCons (mC (.int 1)) (mCons (mOp fAdd (mC (.int 1)) (mOp (fIntC CModX Int.fmod) (mCall RV.m__law_cell [] (mCons (mVar 0) (mCons (mOp fAdd (mC (.int 41)) (mVar 3)) mNil))) (mC (.int 3)))) mNil))) mNil))) mNil)))))
noncomputable def b__law_great_C1e : ME :=
  (mCall RV.m__law_small [] (mCons (mCall RV.m__law_cell [] (mCons (mVar 0) (mCons (mOp fAdd (mC (.int 50)) (mVar 3)) mNil))) mNil))
noncomputable def b__law_great_C1 : ME :=
  (mLc (mRng rng1 (mCons (mVar 1) mNil)) (bName 3) mYes b__law_great_C1e [.d, .d, .o, .x, .d, .x, .x, .x, .x, .x, .x])
noncomputable def b__law_great_C2e : ME :=
  (mCB fListOf (mCons (mVar 10) mNil))
noncomputable def b__law_great_C2 : ME :=
  (mLc (mItL (mVar 2)) (bName 10) mYes b__law_great_C2e [.d, .d, .d, .x, .d, .d, .x, .x, .x, .x, .x])
noncomputable def b__law_great_C3e : ME :=
  (mCall RV.m__law_sum [] (mCons (mLst (mCons (mOp fIx (mVar 7) (mVar 3)) (mCons (mCall RV.m__law_times [] (mCons (mVar 9) (mCons (mOp fIx (mVar 8) (mVar 3)) mNil))) mNil))) mNil))
noncomputable def b__law_great_C3 : ME :=
  (mLc (mRng rng1 (mCons (mVar 1) mNil)) (bName 3) mYes b__law_great_C3e [.d, .d, .o, .x, .x, .d, .d, .d, .d, .d, .x])
noncomputable def b__law_great : MS :=
  (mSeq (mAsg 1 (mOp fAdd (mC (.int 5)) (mOp (fIntC CModX Int.fmod) (mCall RV.m__law_cell [] (mCons (mVar 0) (mCons (mC (.int 40)) mNil))) (mC (.int 2)))))
  (mSeq (mAsg 2 (mCall m__law_rows [] (mCons (mVar 0) (mCons (mC (.int 3)) (mCons (mVar 1) mNil)))))
  (mSeq (mFor (mRng rng1 (mCons (mVar 1) mNil)) (bName 3) b__law_great_L0)
  (mSeq (mAsg 4 (mOp (fIntC CModX Int.fmod) (mCall RV.m__law_cell [] (mCons (mVar 0) (mCons (mC (.int 48)) mNil))) (mVar 1)))
  (mSeq (mAsg 2 (mOp fLstAdd (mSl fSl (mVar 2) (mPart (mVar 4)) mNoPart) (mSl fSl (mVar 2) mNoPart (mPart (mVar 4)))))
  (mSeq (mAsg 5 b__law_great_C1)
  (mSeq (mIf (mSeeB (mCmpT fNe (mCall RV.m_solve [] (mCons b__law_great_C2 (mCons (mCall RV.m__law_product [] (mCons (mVar 2) (mCons (mVar 5) mNil))) mNil))) (mVar 5)))
  (mRet (mC (.bl false)))
  (mKeep [.d, .d, .o, .x, .x, .d, .x, .x, .x, .x, .x] mNext))
  (mSeq (mAsg 6 (mOp (fIntC CModX Int.fmod) (mCall RV.m__law_cell [] (mCons (mVar 0) (mCons (mC (.int 49)) mNil))) (mVar 1)))
  (mSeq (mAsg 7 (mIxO 2 (mOp (fIntC CModX Int.fmod) (mCB fIntOf (mCons (mOp fAdd (mVar 6) (mC (.int 1))) mNil)) (mVar 1))))
  (mSeq (mAsg 8 (mIxO 2 (mOp (fIntC CModX Int.fmod) (mCB fIntOf (mCons (mOp fAdd (mVar 6) (mC (.int 2))) mNil)) (mVar 1))))
  (mSeq (mAsg 9 (mCall RV.m__law_small [] (mCons (mOp (fIntC CDivX Int.fdiv) (mCall RV.m__law_cell [] (mCons (mVar 0) (mCons (mC (.int 49)) mNil))) (mC (.int 6))) mNil)))
  (mSeq (mAsgT (bSetO 2 (mVar 6)) b__law_great_C3)
  (mRet (mAndV (mCall m__law_raises [] (mCons (mVar 2) (mCons (mVar 5) mNil))) (mCall m__law_raises [] (mCons (mVar 2) (mCons (mCall RV.m__law_product [] (mCons (mVar 2) (mCons (mVar 5) mNil))) mNil)))))))))))))))))
noncomputable def m__law_great : MP := mDef .d 10 b__law_great
noncomputable def bC__law_spoilt_C0e : ME :=
  (mCall RV.m__law_times [] (mCons (mVar 7) (mCons (mTup (mCons (mC (.int 2)) (mCons (mC (.int 3)) mNil))) mNil)))
noncomputable def bC__law_spoilt_C0 : ME :=
  (mLc (mItL (mOp fIx (mVar 0) (mVar 5))) (bName 7) mYes bC__law_spoilt_C0e [.d, .d, .d, .d, .d, .d, .x, .x, .x])
noncomputable def bC__law_spoilt_C1e : ME :=
  (mOp fAdd (mOp fAdd (mSl fSl (mVar 8) mNoPart (mPart (mVar 4))) (mLst (mCons (mTup (mCons (mC (.int 0)) (mCons (mC (.int 1)) mNil))) mNil))) (mSl fSl (mVar 8) (mPart (mOp fAdd (mVar 4) (mC (.int 1)))) mNoPart))
noncomputable def bC__law_spoilt_C1 : ME :=
  (mLc (mItL (mVar 0)) (bName 8) mYes bC__law_spoilt_C1e [.d, .x, .d, .d, .d, .x, .x, .x, .x])
noncomputable def bC__law_spoilt_L0 : MS :=
  (mKeep [.s 0 (.l (.all (.l (.all .d)))), .x, .d, .d, .x, .x, .x, .x, .x] (mPSet (plV 0 6) (mC (.int 0)) (mTup (mCons (mC (.int 0)) (mCons (mC (.int 1)) mNil)))))
noncomputable def bC__law_spoilt_C2e : ME :=
  (mCall RV.m__law_sum [] (mCons (mLst (mCons (mOp fIx (mOp fIx (mVar 0) (mC (.int 1))) (mVar 6)) (mCons (mOp fIx (mOp fIx (mVar 0) (mC (.int 2))) (mVar 6)) mNil))) mNil))
noncomputable def bC__law_spoilt_C2 : ME :=
  (mLc (mRng rng1 (mCons (mVar 2) mNil)) (bName 6) mYes bC__law_spoilt_C2e [.d, .x, .d, .d, .x, .x, .x, .x, .x])
noncomputable def bC__law_spoilt : MS :=
  (mSeq (mAsg 2 (mSee .d (mCB fLen (mCons (mVar 0) mNil))))
  (mSeq (mAsg 3 (mOp (fIntC CModX Int.fmod) (mVar 1) (mC (.int 6))))
  (mSeq (mAsg 4 (mOp (fIntC CModX Int.fmod) (mOp (fIntC CDivX Int.fdiv) (mVar 1) (mC (.int 6))) (mVar 2)))
  (mSeq (mAsg 5 (mOp (fIntC CModX Int.fmod) (mCB fIntOf (mCons (mOp fAdd (mVar 4) (mC (.int 1))) mNil)) (mVar 2)))
  (mSeq (mIf (mAnd (mCmpT fEq (mVar 3) (mC (.int 1))) (mCmpT fGt (mVar 2) (mC (.int 1))))
  (mKeep [.s 0 (.l (.all (.l (.all .d)))), .x, .d, .d, .d, .x, .x, .x, .x] (mWSet 0 (mVar 4) (mSee .o bC__law_spoilt_C0)))
  (mKeep [.s 0 (.l (.all (.l (.all .d)))), .x, .d, .d, .d, .x, .x, .x, .x] mNext))
  (mSplit (mCmpT fEq (mVar 3) (mC (.int 2)))
  (mAsg 0 bC__law_spoilt_C1)
  mNext
  (mSeq (mIf (mCmpT fEq (mVar 3) (mC (.int 3)))
  mBadS
  (mKeep [.o, .x, .d, .d, .x, .x, .x, .x, .x] mNext))
  (mSeq (mIf (mAnd (mCmpT fEq (mVar 3) (mC (.int 4))) (mCmpT fGt (mVar 2) (mC (.int 2))))
  mBadS
  (mKeep [.o, .x, .x, .x, .x, .x, .x, .x, .x] mNext))
  (mRet (mVar 0))))
  (mSeq (mIf (mCmpT fEq (mVar 3) (mC (.int 3)))
  (mKeep0 [.s 0 (.l (.all (.l (.all .d)))), .x, .d, .d, .x, .x, .x, .x, .x] (mFor (mRng rng1 (mCons (mOp (fInt (· - ·)) (mVar 2) (mC (.int 1))) mNil)) (bName 6) bC__law_spoilt_L0))
  (mKeep [.s 0 (.l (.all (.l (.all .d)))), .x, .d, .d, .x, .x, .x, .x, .x] mNext))
  (mSeq (mIf (mAnd (mCmpT fEq (mVar 3) (mC (.int 4))) (mCmpT fGt (mVar 2) (mC (.int 2))))
  (mKeep [.s 0 (.l (.all (.l (.all .d)))), .x, .x, .x, .x, .x, .x, .x, .x] (mWSet 0 (mC (.int 0)) (mSee .o bC__law_spoilt_C2)))
  (mKeep [.s 0 (.l (.all (.l (.all .d)))), .x, .x, .x, .x, .x, .x, .x, .x] mNext))
  (mRet (mVar 0))))))))))
noncomputable def mC__law_spoilt : MPB := mDefB .d 7 bC__law_spoilt
noncomputable def b__law_determinant_R0 : MS :=
  mBadS
noncomputable def m__law_determinant_R0 : MP := mDef .d 5 b__law_determinant_R0
noncomputable def b__law_determinant_R1_C0e : ME :=
  (mOp fAdd (mSl fSl (mVar 5) mNoPart (mPart (mVar 2))) (mSl fSl (mVar 5) (mPart (mOp fAdd (mVar 2) (mC (.int 1)))) mNoPart))
noncomputable def b__law_determinant_R1_C0 : ME :=
  (mLc (mItL (mSl fSl (mVar 0) (mPart (mC (.int 1))) mNoPart)) (bName 5) mYes b__law_determinant_R1_C0e [.d, .o, .d, .x, .x, .x])
noncomputable def b__law_determinant_R1_L0 : MS :=
  (mKeep [.d, .o, .x, .x, .x, .x] (mSeq (mAsg 3 b__law_determinant_R1_C0)
  (mSeq (mAsg 4 (mCall RV.m__law_times [] (mCons (mOp fIx (mOp fIx (mVar 0) (mC (.int 0))) (mVar 2)) (mCons (mCall m__law_determinant_R0 [] (mCons (mVar 3) mNil)) mNil))))
  (mSeq (mIf (mCmpT fEq (mOp (fIntC CModX Int.fmod) (mVar 2) (mC (.int 2))) (mC (.int 1)))
  (mKeep [.d, .o, .x, .x, .d, .x] (mAsg 4 (mTup (mCons (mOp (fInt (· - ·)) (mC (.int 0)) (mOp fIx (mVar 4) (mC (.int 0)))) (mCons (mOp fIx (mVar 4) (mC (.int 1))) mNil)))))
  (mKeep [.d, .o, .x, .x, .d, .x] mNext))
  (mApp 1 (mVar 4))))))
noncomputable def b__law_determinant_R1 : MS :=
  (mSeq (mIf (mCmpT fEq (mVar 0) (mLst mNil))
  (mRet (mTup (mCons (mC (.int 1)) (mCons (mC (.int 1)) mNil))))
  mNext)
  (mSeq (mAsg 1 (mLst mNil))
  (mSeq (mFor (mRng rng1 (mCons (mCB fLen (mCons (mVar 0) mNil)) mNil)) (bName 2) b__law_determinant_R1_L0)
  (mRet (mCall RV.m__law_sum [] (mCons (mVar 1) mNil))))))
noncomputable def m__law_determinant_R1 : MP := mDef .d 5 b__law_determinant_R1
noncomputable def b__law_determinant_R2_C0e : ME :=
  (mOp fAdd (mSl fSl (mVar 5) mNoPart (mPart (mVar 2))) (mSl fSl (mVar 5) (mPart (mOp fAdd (mVar 2) (mC (.int 1)))) mNoPart))
noncomputable def b__law_determinant_R2_C0 : ME :=
  (mLc (mItL (mSl fSl (mVar 0) (mPart (mC (.int 1))) mNoPart)) (bName 5) mYes b__law_determinant_R2_C0e [.d, .o, .d, .x, .x, .x])
noncomputable def b__law_determinant_R2_L0 : MS :=
  (mKeep [.d, .o, .x, .x, .x, .x] (mSeq (mAsg 3 b__law_determinant_R2_C0)
  (mSeq (mAsg 4 (mCall RV.m__law_times [] (mCons (mOp fIx (mOp fIx (mVar 0) (mC (.int 0))) (mVar 2)) (mCons (mCall m__law_determinant_R1 [] (mCons (mVar 3) mNil)) mNil))))
  (mSeq (mIf (mCmpT fEq (mOp (fIntC CModX Int.fmod) (mVar 2) (mC (.int 2))) (mC (.int 1)))
  (mKeep [.d, .o, .x, .x, .d, .x] (mAsg 4 (mTup (mCons (mOp (fInt (· - ·)) (mC (.int 0)) (mOp fIx (mVar 4) (mC (.int 0)))) (mCons (mOp fIx (mVar 4) (mC (.int 1))) mNil)))))
  (mKeep [.d, .o, .x, .x, .d, .x] mNext))
  (mApp 1 (mVar 4))))))
noncomputable def b__law_determinant_R2 : MS :=
  (mSeq (mIf (mCmpT fEq (mVar 0) (mLst mNil))
  (mRet (mTup (mCons (mC (.int 1)) (mCons (mC (.int 1)) mNil))))
  mNext)
  (mSeq (mAsg 1 (mLst mNil))
  (mSeq (mFor (mRng rng1 (mCons (mCB fLen (mCons (mVar 0) mNil)) mNil)) (bName 2) b__law_determinant_R2_L0)
  (mRet (mCall RV.m__law_sum [] (mCons (mVar 1) mNil))))))
noncomputable def m__law_determinant_R2 : MP := mDef .d 5 b__law_determinant_R2
noncomputable def b__law_determinant_R3_C0e : ME :=
  (mOp fAdd (mSl fSl (mVar 5) mNoPart (mPart (mVar 2))) (mSl fSl (mVar 5) (mPart (mOp fAdd (mVar 2) (mC (.int 1)))) mNoPart))
noncomputable def b__law_determinant_R3_C0 : ME :=
  (mLc (mItL (mSl fSl (mVar 0) (mPart (mC (.int 1))) mNoPart)) (bName 5) mYes b__law_determinant_R3_C0e [.d, .o, .d, .x, .x, .x])
noncomputable def b__law_determinant_R3_L0 : MS :=
  (mKeep [.d, .o, .x, .x, .x, .x] (mSeq (mAsg 3 b__law_determinant_R3_C0)
  (mSeq (mAsg 4 (mCall RV.m__law_times [] (mCons (mOp fIx (mOp fIx (mVar 0) (mC (.int 0))) (mVar 2)) (mCons (mCall m__law_determinant_R2 [] (mCons (mVar 3) mNil)) mNil))))
  (mSeq (mIf (mCmpT fEq (mOp (fIntC CModX Int.fmod) (mVar 2) (mC (.int 2))) (mC (.int 1)))
  (mKeep [.d, .o, .x, .x, .d, .x] (mAsg 4 (mTup (mCons (mOp (fInt (· - ·)) (mC (.int 0)) (mOp fIx (mVar 4) (mC (.int 0)))) (mCons (mOp fIx (mVar 4) (mC (.int 1))) mNil)))))
  (mKeep [.d, .o, .x, .x, .d, .x] mNext))
  (mApp 1 (mVar 4))))))
noncomputable def b__law_determinant_R3 : MS :=
  (mSeq (mIf (mCmpT fEq (mVar 0) (mLst mNil))
  (mRet (mTup (mCons (mC (.int 1)) (mCons (mC (.int 1)) mNil))))
  mNext)
  (mSeq (mAsg 1 (mLst mNil))
  (mSeq (mFor (mRng rng1 (mCons (mCB fLen (mCons (mVar 0) mNil)) mNil)) (bName 2) b__law_determinant_R3_L0)
  (mRet (mCall RV.m__law_sum [] (mCons (mVar 1) mNil))))))
noncomputable def m__law_determinant_R3 : MP := mDef .d 5 b__law_determinant_R3
noncomputable def b__law_determinant_R4_C0e : ME :=
  (mOp fAdd (mSl fSl (mVar 5) mNoPart (mPart (mVar 2))) (mSl fSl (mVar 5) (mPart (mOp fAdd (mVar 2) (mC (.int 1)))) mNoPart))
noncomputable def b__law_determinant_R4_C0 : ME :=
  (mLc (mItL (mSl fSl (mVar 0) (mPart (mC (.int 1))) mNoPart)) (bName 5) mYes b__law_determinant_R4_C0e [.d, .o, .d, .x, .x, .x])
noncomputable def b__law_determinant_R4_L0 : MS :=
  (mKeep [.d, .o, .x, .x, .x, .x] (mSeq (mAsg 3 b__law_determinant_R4_C0)
  (mSeq (mAsg 4 (mCall RV.m__law_times [] (mCons (mOp fIx (mOp fIx (mVar 0) (mC (.int 0))) (mVar 2)) (mCons (mCall m__law_determinant_R3 [] (mCons (mVar 3) mNil)) mNil))))
  (mSeq (mIf (mCmpT fEq (mOp (fIntC CModX Int.fmod) (mVar 2) (mC (.int 2))) (mC (.int 1)))
  (mKeep [.d, .o, .x, .x, .d, .x] (mAsg 4 (mTup (mCons (mOp (fInt (· - ·)) (mC (.int 0)) (mOp fIx (mVar 4) (mC (.int 0)))) (mCons (mOp fIx (mVar 4) (mC (.int 1))) mNil)))))
  (mKeep [.d, .o, .x, .x, .d, .x] mNext))
  (mApp 1 (mVar 4))))))
noncomputable def b__law_determinant_R4 : MS :=
  (mSeq (mIf (mCmpT fEq (mVar 0) (mLst mNil))
  (mRet (mTup (mCons (mC (.int 1)) (mCons (mC (.int 1)) mNil))))
  mNext)
  (mSeq (mAsg 1 (mLst mNil))
  (mSeq (mFor (mRng rng1 (mCons (mCB fLen (mCons (mVar 0) mNil)) mNil)) (bName 2) b__law_determinant_R4_L0)
  (mRet (mCall RV.m__law_sum [] (mCons (mVar 1) mNil))))))
noncomputable def m__law_determinant_R4 : MP := mDef .d 5 b__law_determinant_R4
noncomputable def b__law_determinant_R5_C0e : ME :=
  (mOp fAdd (mSl fSl (mVar 5) mNoPart (mPart (mVar 2))) (mSl fSl (mVar 5) (mPart (mOp fAdd (mVar 2) (mC (.int 1)))) mNoPart))
noncomputable def b__law_determinant_R5_C0 : ME :=
  (mLc (mItL (mSl fSl (mVar 0) (mPart (mC (.int 1))) mNoPart)) (bName 5) mYes b__law_determinant_R5_C0e [.d, .o, .d, .x, .x, .x])
noncomputable def b__law_determinant_R5_L0 : MS :=
  (mKeep [.d, .o, .x, .x, .x, .x] (mSeq (mAsg 3 b__law_determinant_R5_C0)
  (mSeq (mAsg 4 (mCall RV.m__law_times [] (mCons (mOp fIx (mOp fIx (mVar 0) (mC (.int 0))) (mVar 2)) (mCons (mCall m__law_determinant_R4 [] (mCons (mVar 3) mNil)) mNil))))
  (mSeq (mIf (mCmpT fEq (mOp (fIntC CModX Int.fmod) (mVar 2) (mC (.int 2))) (mC (.int 1)))
  (mKeep [.d, .o, .x, .x, .d, .x] (mAsg 4 (mTup (mCons (mOp (fInt (· - ·)) (mC (.int 0)) (mOp fIx (mVar 4) (mC (.int 0)))) (mCons (mOp fIx (mVar 4) (mC (.int 1))) mNil)))))
  (mKeep [.d, .o, .x, .x, .d, .x] mNext))
  (mApp 1 (mVar 4))))))
noncomputable def b__law_determinant_R5 : MS :=
  (mSeq (mIf (mCmpT fEq (mVar 0) (mLst mNil))
  (mRet (mTup (mCons (mC (.int 1)) (mCons (mC (.int 1)) mNil))))
  mNext)
  (mSeq (mAsg 1 (mLst mNil))
  (mSeq (mFor (mRng rng1 (mCons (mCB fLen (mCons (mVar 0) mNil)) mNil)) (bName 2) b__law_determinant_R5_L0)
  (mRet (mCall RV.m__law_sum [] (mCons (mVar 1) mNil))))))
noncomputable def m__law_determinant_R5 : MP := mDef .d 5 b__law_determinant_R5
noncomputable def b_law_C0e : ME :=
  (mCall RV.m__law_small [] (mCons (mCall RV.m__law_cell [] (mCons (mVar 0) (mCons (mOp fAdd (mC (.int 20)) (mVar 8)) mNil))) mNil))
noncomputable def b_law_C0 : ME :=
  (mLc (mRng rng1 (mCons (mVar 1) mNil)) (bName 8) mYes b_law_C0e [.d, .d, .d, .x, .x, .x, .x, .x, .x, .x])
noncomputable def b_law_C1e : ME :=
  (mCall RV.m__law_small [] (mCons (mCall RV.m__law_cell [] (mCons (mVar 0) (mCons (mOp fAdd (mC (.int 30)) (mVar 8)) mNil))) mNil))
noncomputable def b_law_C1 : ME :=
  (mLc (mRng rng1 (mCons (mVar 1) mNil)) (bName 8) mYes b_law_C1e [.d, .d, .d, .d, .x, .x, .x, .x, .x, .x])
noncomputable def b_law_C2e : ME :=
  (mCB fListOf (mCons (mVar 9) mNil))
noncomputable def b_law_C2 : ME :=
  (mLc (mItL (mVar 2)) (bName 9) mYes b_law_C2e [.d, .d, .d, .d, .d, .x, .x, .x, .x, .x])
noncomputable def b_law_L0 : MS :=
  (mIf (mNot (mTr (mCall RV.m__law_is_ratio [] (mCons (mVar 7) mNil))))
  (mRet (mC (.bl false)))
  (mKeep [.d, .x, .d, .d, .d, .x, .d, .x, .x, .x] mNext))
noncomputable def b_law : MS :=
  (mSeq (mIf (mNot (mTr (mCall m__law_great [] (mCons (mVar 0) mNil))))
  (mRet (mC (.bl false)))
  mNext)
  (mSeq (mAsg 1 (mOp fAdd (mC (.int 1)) (mOp (fIntC CModX Int.fmod) (mCall RV.m__law_cell [] (mCons (mVar 0) (mCons (mC (.int 0)) mNil))) (mC (.int 4)))))
  (mSeq (mAsg 2 (mCallC (.l (.all (.l (.all .d)))) mC__law_spoilt [] (mCall m__law_rows [] (mCons (mVar 0) (mCons (mC (.int 3)) (mCons (mVar 1) mNil)))) (mCons (mCall RV.m__law_cell [] (mCons (mVar 0) (mCons (mC (.int 1)) mNil))) mNil)))
  (mSeq (mAsg 3 b_law_C0)
  (mSeq (mAsg 4 b_law_C1)
  (mSeq (mIf (mCmpT fNe (mOp (fIntC CModX Int.fmod) (mCall RV.m__law_cell [] (mCons (mVar 0) (mCons (mC (.int 2)) mNil))) (mC (.int 3))) (mC (.int 0)))
  (mAsg 4 (mCall RV.m__law_product [] (mCons (mVar 2) (mCons (mVar 3) mNil))))
  mNext)
  (mSeq (mAsg 5 (mTup (mCons b_law_C2 (mCons (mCB fListOf (mCons (mVar 4) mNil)) mNil))))
  (mSeq (mIf (mCmpT fEq (mCall m__law_determinant_R5 [] (mCons (mVar 2) mNil)) (mTup (mCons (mC (.int 0)) (mCons (mC (.int 1)) mNil))))
  (mRet (mAndV (mCall m__law_raises [] (mCons (mVar 2) (mCons (mVar 4) mNil))) (mCmp fEq (mTup (mCons (mVar 2) (mCons (mVar 4) mNil))) (mVar 5))))
  mNext)
  (mSeq (mAsg 6 (mCall RV.m_solve [] (mCons (mVar 2) (mCons (mVar 4) mNil))))
  (mSeq (mIf (mOr (mCmpT fNe (mTup (mCons (mVar 2) (mCons (mVar 4) mNil))) (mVar 5)) (mOr (mNot (mTr (mUn (fIsi "list") (mVar 6)))) (mCmpT fNe (mCB fLen (mCons (mVar 6) mNil)) (mVar 1))))
  (mRet (mC (.bl false)))
  (mKeep [.d, .x, .d, .d, .d, .x, .d, .x, .x, .x] mNext))
  (mSeq (mFor (mItL (mVar 6)) (bName 7) b_law_L0)
  (mSeq (mIf (mAnd (mCmpT fNe (mOp (fIntC CModX Int.fmod) (mCall RV.m__law_cell [] (mCons (mVar 0) (mCons (mC (.int 2)) mNil))) (mC (.int 3))) (mC (.int 0))) (mCmpT fNe (mVar 6) (mVar 3)))
  (mRet (mC (.bl false)))
  (mKeep [.x, .x, .d, .x, .d, .x, .d, .x, .x, .x] mNext))
  (mRet (mCmp fEq (mCall RV.m__law_product [] (mCons (mVar 2) (mCons (mVar 6) mNil))) (mVar 4)))))))))))))))
noncomputable def m_law : MP := mDef .d 9 b_law
end K15
namespace MR
open PySem L2
namespace DT
theorem sm_head {n : Nat} {f : Nat → Rat} : sm (n + 1) f = f 0 + sm n fun c => f (c + 1) := by
  induction n generalizing f with
  | zero => rw [sm_succ, sm_zero, sm_zero]; grind
  | succ n ih => rw [sm_succ, ih, sm_succ]; grind
theorem det_less_rows {n p : Nat} {M : Tb} {μ : Nat → Rat} (hp : p < n) : ∀ t, t ≤ n → det n (fun r => if r < t ∧ r ≠ p then (fun c => M r c - μ r * M p c) else M r) = det n M := by
  intro t
  induction t with
  | zero =>
    intro _
    refine det_congr fun i _ j _ => ?_
    simp
  | succ t ih =>
    intro ht
    have ih := ih (by omega)
    by_cases e : t = p
    · rw [← ih]
      refine det_congr fun i _ j _ => ?_
      have : (i < t + 1 ∧ i ≠ p) = (i < t ∧ i ≠ p) := by apply propext; omega
      simp only [this]
    · rw [← ih]
      generalize hT : (fun r => if r < t ∧ r ≠ p then (fun c => M r c - μ r * M p c) else M r : Tb) = T
      have Tt : T t = M t := by rw [← hT]; simp
      have Tp : T p = M p := by rw [← hT]; simp
      have e1 : (fun r => if r < t + 1 ∧ r ≠ p then (fun c => M r c - μ r * M p c) else M r : Tb) = setR T t (fun c => -(μ t) * M p c + M t c) := by
        funext r
        unfold setR
        by_cases h : r = t
        · subst h
          rw [if_pos rfl, if_pos ⟨by omega, e⟩]
          funext c
          grind
        · rw [if_neg h, ← hT]
          have : (r < t + 1 ∧ r ≠ p) = (r < t ∧ r ≠ p) := by apply propext; omega
          simp only [this]
      rw [e1, det_lin (by omega)]
      have z : det n (setR T t (M p)) = 0 := det_same (p := t) (q := p) (by omega) hp e fun j _ => by
        unfold setR
        rw [if_pos rfl, if_neg (Ne.symm e), Tp]
      have s : setR T t (M t) = T := by rw [← Tt]; exact setR_self
      rw [z, s]
      grind
theorem sg_ne (r : Nat) : sg r ≠ 0 := by
  unfold sg
  split <;> decide
theorem kern : ∀ (n : Nat) (M : Tb), det n M ≠ 0 ∨ ∃ z : Nat → Rat, (∃ c, c < n ∧ z c ≠ 0) ∧ ∀ r, r < n → sm n (fun c => M r c * z c) = 0
  | 0, M => .inl (by rw [det_zero]; decide)
  | n + 1, M => by
    by_cases h : ∀ r, r < n + 1 → M r 0 = 0
    · refine .inr ⟨fun c => if c = 0 then 1 else 0, ⟨0, by omega, by simp⟩, fun r hr => ?_⟩
      rw [sm_one (i := 0) (by omega) fun c _ hc => by simp [hc]]
      simp [h r hr]
    · obtain ⟨p, hp, h0⟩ : ∃ p, p < n + 1 ∧ M p 0 ≠ 0 := by
        apply Classical.byContradiction
        intro k
        exact h fun r hr => Classical.byContradiction fun z => k ⟨r, hr, z⟩
      generalize hM' : (fun r => if r < n + 1 ∧ r ≠ p then (fun c => M r c - M r 0 / M p 0 * M p c) else M r : Tb) = M'
      have dM : det (n + 1) M' = det (n + 1) M := by rw [← hM']; exact det_less_rows (μ := fun r => M r 0 / M p 0) hp (n + 1) (Nat.le_refl _)
      have Mp : M' p = M p := by rw [← hM']; simp
      have Mr : ∀ r, r < n + 1 → r ≠ p → ∀ c, M' r c = M r c - M r 0 / M p 0 * M p c := fun r hr hn c => by rw [← hM']; simp [hr, hn]
      have M0 : ∀ r, r < n + 1 → r ≠ p → M' r 0 = 0 := fun r hr hn => by
        rw [Mr r hr hn]
        grind
      have ex : det (n + 1) M' = sg p * M p 0 * det n (drop0 M' p) := by
        rw [det_succ, sm_one hp fun r hr hn => by rw [M0 r hr hn]; grind, Mp]
      rcases kern n (drop0 M' p) with k | ⟨z, ⟨c, hc, hz⟩, hk⟩
      · left
        rw [← dM, ex]
        have := sg_ne p
        grind
      · right
        refine ⟨fun c => if c = 0 then -(sm n fun c => M p (c + 1) * z c) / M p 0 else z (c - 1), ⟨c + 1, by omega, by simpa using hz⟩, fun r hr => ?_⟩
        rw [sm_head]
        simp only [if_true, Nat.add_sub_cancel, Nat.add_one_ne_zero, if_false]
        by_cases e : r = p
        · subst e
          grind
        · have : sm n (fun c => (M r (c + 1) - M r 0 / M p 0 * M p (c + 1)) * z c) = 0 := by
            have hi := hk (if r < p then r else r - 1) (by split <;> omega)
            rw [← hi]
            refine sm_congr fun c _ => ?_
            unfold drop0
            have e2 : (if (if r < p then r else r - 1) < p then (if r < p then r else r - 1) else (if r < p then r else r - 1) + 1) = r := by
              by_cases h1 : r < p
              · simp [h1]
              · rw [if_neg h1, if_neg (by omega)]
                omega
            rw [e2, Mr r hr e]
          rw [sm_sub_mul] at this
          grind
noncomputable def detL : Nat → Tb → Rat
  | 0, _ => 1
  | n + 1, M => sm (n + 1) fun k => sg k * M 0 k * detL n (fun i j => M (i + 1) (if j < k then j else j + 1))
theorem detL_eq : ∀ (n : Nat) (M : Tb), detL n M = det n fun i j => M j i
  | 0, M => rfl
  | n + 1, M => by
    rw [det_succ]
    show sm (n + 1) _ = _
    refine sm_congr fun k _ => ?_
    rw [detL_eq n]
    rfl
theorem detL_kern {n : Nat} {M : Tb} {z : Nat → Rat} (h : ∃ c, c < n ∧ z c ≠ 0) (hz : ∀ r, r < n → sm n (fun c => M r c * z c) = 0) : detL n M = 0 := by
  obtain ⟨k, hk, h0⟩ := h
  rw [detL_eq]
  have := cramer (n := n) (M := fun i j => M j i) (k := k) (μ := z) (v := fun _ => 0) hk fun c hc => by
    rw [← hz c hc]
    exact sm_congr fun j _ => Rat.mul_comm _ _
  rw [det_none hk] at this
  grind
theorem detL_left {n : Nat} {M : Tb} (h : detL n M = 0) : ∃ y : Nat → Rat, (∃ c, c < n ∧ y c ≠ 0) ∧ ∀ c, c < n → sm n (fun r => y r * M r c) = 0 := by
  rw [detL_eq] at h
  rcases kern n (fun i j => M j i) with k | ⟨z, h1, h2⟩
  · exact absurd h k
  · exact ⟨z, h1, fun c hc => by rw [← h2 c hc]; exact sm_congr fun j _ => Rat.mul_comm _ _⟩
theorem left_none {n k : Nat} {M : Tb} {x y : Nat → Rat} (hk : k < n) (h0 : y k ≠ 0) (h : ∀ c, c < n → sm n (fun r => y r * M r c) = 0) (hx : ∀ r, r < n → sm n (fun c => M r c * x c) = if r = k then 1 else 0) : False := by
  have e1 : sm n (fun r => y r * sm n fun c => M r c * x c) = y k := by
    rw [sm_one hk fun r hr hn => by rw [hx r hr, if_neg hn]; grind, hx k hk, if_pos rfl]
    grind
  have e2 : sm n (fun r => y r * sm n fun c => M r c * x c) = sm n fun c => x c * sm n fun r => y r * M r c := by
    have a : ∀ r, y r * sm n (fun c => M r c * x c) = sm n fun c => y r * (M r c * x c) := fun r => (sm_mull (n := n) (f := fun c => M r c * x c) (k := y r)).symm
    rw [sm_congr fun r _ => a r, sm_swap]
    refine sm_congr fun c _ => ?_
    rw [← sm_mull]
    exact sm_congr fun r _ => by grind
  rw [e2, sm_none fun c hc => by rw [h c hc]; grind] at e1
  exact h0 e1.symm
end DT
end MR
namespace K15
open PySem L2 MR MR.DT
theorem wapp_ok {i : Nat} {m : ME} {ρ ρ1 : List D} {d0 : D} {es ds ds0 : List D} (h0 : ρ.getD i .non = .lst ds0) (hm : m ρ = .ok d0 ρ1) (hd : d0 = .lst es) (h1 : ρ1.getD i .non = .lst ds) (hl : ds.length < 1000000) : mWApp i m ρ = .ok .non (ρ1.set i (.lst (ds ++ [.lst es]))) := by
  subst hd
  unfold mWApp
  rw [h0]
  simp only [hm, h1, hl, if_true]
theorem rows_eq {ns : List Int} {a n : Nat} (ha : a ≤ 100) (hn : n ≤ 6) : m__law_rows [.scr ns, .int a, .int n] = .ok (rqm (rowsL n (drawn ns a n))) := by
  have c1 : (n : Int) ≤ 1000000 := by omega
  have c2 : -1000000 ≤ (n : Int) := by omega
  have cc : ∀ (L : D) (i : Nat), i < 6 → b__law_rows_C0 [.scr ns, .int a, .int n, L, .int i, .non] = .ok (rql (rowL n (drawn ns a n i))) [.scr ns, .int a, .int n, L, .int i, .non] := fun L i hi => by
    unfold b__law_rows_C0
    simp [c1, c2]
    rw [lcR (fun j => rq (drawn ns a n i j)), rql_range]
    · rfl
    intro j hj
    have hwi : n * i ≤ 6 * 6 := Nat.mul_le_mul hn (by omega)
    have e := cell_is ns (a + n * i + j) (by omega)
    have m : CMulX n i := mulx (a := 3) (b := 3) (by omega) (by omega)
    push_cast at e
    unfold b__law_rows_C0e
    simp [m, e, small_is, drawn]
  have go := forL_range (i := 4) (s1 := b__law_rows_L0) (fun k => [.scr ns, .int a, .int n, rqm ((List.range k).map fun i => rowL n (drawn ns a n i)), .non, .non]) n fun k hk => by
    left
    have hl : k < 1000000 := by omega
    simp only [List.set_cons_succ, List.set_cons_zero]
    unfold b__law_rows_L0
    rw [mKeep_eq, mDrop_eq, wapp_ok (es := (rowL n (drawn ns a n k)).map rq) (ds := ((List.range k).map fun i => rowL n (drawn ns a n i)).map rql) rfl (cc _ k (by omega)) rfl rfl (by simpa using hl)]
    simp [List.range_succ]
    simp [rqm, rql]
  have z : rqm ((List.range 0).map fun i => rowL n (drawn ns a n i)) = .lst [] := rfl
  simp only [z] at go
  have w : mNilW (mLst mNil) [.scr ns, .int a, .int n, .non, .non, .non] = .ok (.lst []) [.scr ns, .int a, .int n, .non, .non, .non] := rfl
  unfold m__law_rows
  rw [mDef_eq]
  unfold b__law_rows
  simp [c1, c2, go, w, mRetW]
  rfl
noncomputable def bdetC0e : ME :=
  (mOp fAdd (mSl fSl (mVar 5) mNoPart (mPart (mVar 2))) (mSl fSl (mVar 5) (mPart (mOp fAdd (mVar 2) (mC (.int 1)))) mNoPart))
noncomputable def bdetC0 : ME :=
  (mLc (mItL (mSl fSl (mVar 0) (mPart (mC (.int 1))) mNoPart)) (bName 5) mYes bdetC0e [.d, .o, .d, .x, .x, .x])
noncomputable def bdetL0 (c : MP) : MS :=
  (mKeep [.d, .o, .x, .x, .x, .x] (mSeq (mAsg 3 bdetC0)
  (mSeq (mAsg 4 (mCall RV.m__law_times [] (mCons (mOp fIx (mOp fIx (mVar 0) (mC (.int 0))) (mVar 2)) (mCons (mCall c [] (mCons (mVar 3) mNil)) mNil))))
  (mSeq (mIf (mCmpT fEq (mOp (fIntC CModX Int.fmod) (mVar 2) (mC (.int 2))) (mC (.int 1)))
  (mKeep [.d, .o, .x, .x, .d, .x] (mAsg 4 (mTup (mCons (mOp (fInt (· - ·)) (mC (.int 0)) (mOp fIx (mVar 4) (mC (.int 0)))) (mCons (mOp fIx (mVar 4) (mC (.int 1))) mNil)))))
  (mKeep [.d, .o, .x, .x, .d, .x] mNext))
  (mApp 1 (mVar 4))))))
noncomputable def bdet (c : MP) : MS :=
  (mSeq (mIf (mCmpT fEq (mVar 0) (mLst mNil))
  (mRet (mTup (mCons (mC (.int 1)) (mCons (mC (.int 1)) mNil))))
  mNext)
  (mSeq (mAsg 1 (mLst mNil))
  (mSeq (mFor (mRng rng1 (mCons (mCB fLen (mCons (mVar 0) mNil)) mNil)) (bName 2) (bdetL0 c))
  (mRet (mCall RV.m__law_sum [] (mCons (mVar 1) mNil))))))
theorem r1 : m__law_determinant_R1 = mDef .d 5 (bdet m__law_determinant_R0) := rfl
theorem r2 : m__law_determinant_R2 = mDef .d 5 (bdet m__law_determinant_R1) := rfl
theorem ix_rows {n i : Nat} {M : Tb} (h : i < n) : fIx (rqm (rowsL n M)) (.int i) = some (rql (rowL n (M i))) := by
  have := ix_rqm (xs := rowsL n M) (i := i) (by simpa [rowsL] using h)
  rw [this]
  simp [row, rowsL, h]
theorem det0_eq (c : MP) (M : Tb) : mDef .d 5 (bdet c) [rqm (rowsL 0 M)] = .ok (rq (detL 0 M)) := by
  rw [mDef_eq]
  unfold bdet
  have z : fEq (rqm (rowsL 0 M)) (.lst []) = some true := by
    rw [show (D.lst [] : D) = rqm [] from rfl, fEq_rqm]
    simp [rowsL]
  simp [z]
  exact ⟨rfl, rfl⟩
noncomputable def minor (M : Tb) (k : Nat) : Tb := fun i j => M (i + 1) (if j < k then j else j + 1)
theorem minor_row {n k : Nat} {f : Nat → Rat} (hk : k < n + 1) : (rowL (n + 1) f).take k ++ (rowL (n + 1) f).drop (k + 1) = rowL n fun j => f (if j < k then j else j + 1) := by
  refine List.ext_getElem (by simp [rowL]; omega) fun j h1 h2 => ?_
  have hj : j < n := by simpa [rowL] using h2
  simp only [rowL] at *
  by_cases h : j < k
  · rw [List.getElem_append_left (by simp; omega)]
    simp [h]
  · rw [List.getElem_append_right (by simp; omega)]
    simp only [List.length_take, List.length_map, List.length_range, List.getElem_drop, List.getElem_map, List.getElem_range, h, if_false]
    congr 1
    omega
theorem less_rows {n k : Nat} {M : Tb} {A : D} (hk : k < n + 1) (hn : n ≤ 6) : bdetC0 [rqm (rowsL (n + 1) M), A, .int k, .non, .non, .non] = .ok (rqm (rowsL n (minor M k))) [rqm (rowsL (n + 1) M), A, .int k, .non, .non, .non] := by
  have e1 : cutD (rowsL (n + 1) M) (some 1) none = (List.range n).map fun i => rowL (n + 1) (M (i + 1)) := by
    have := cutD_from (xs := rowsL (n + 1) M) (k := 1)
    rw [show ((1 : Nat) : Int) = 1 from rfl] at this
    rw [this]
    unfold rowsL
    rw [List.range_succ_eq_map]
    simp
  unfold bdetC0
  simp [fSl_rqm, e1]
  rw [lcX (fun i => rql (rowL n (minor M k i))) (List.range n)]
  · simp [rqm, rowsL]
  · intro i hi
    have hc : ((k : Int) + 1) = ((k + 1 : Nat) : Int) := by omega
    unfold bdetC0e
    simp [fSl_rql]
    rw [hc, cutD_to, cutD_from, fAdd_rql (by simp [rowL]; omega), minor_row hk]
    rfl
noncomputable def term (M : Tb) (n k : Nat) : Rat := sg k * M 0 k * detL n (minor M k)
theorem fmod2 {k : Nat} : ((k : Int).fmod 2 = 1) ↔ k % 2 = 1 := by
  rw [Int.fmod_eq_emod_of_nonneg _ (by decide)]
  omega
theorem det_turn {n k b : Nat} {M : Tb} {c : MP} {ps : List Rat} (hk : k < n + 1) (hn : n ≤ 6) (hM : Bt 40 (M 0 k)) (hc : c [rqm (rowsL n (minor M k))] = .ok (rq (detL n (minor M k)))) (hb : Bt b (detL n (minor M k))) (b7 : b ≤ 660) (hl : ps.length ≤ 6) :
    bdetL0 c [rqm (rowsL (n + 1) M), .lst (ps.map rq), .int k, .non, .non, .non] = .nx [rqm (rowsL (n + 1) M), .lst ((ps ++ [term M n k]).map rq), .non, .non, .non, .non] := by
  have t := ltimes_eq hM hb (by omega)
  have m2 : CModX (k : Int) 2 := modx
  have ng := @rq_neg (M 0 k * detL n (minor M k))
  simp only [Int.zero_sub] at ng
  unfold bdetL0
  by_cases h : k % 2 = 1
  · have e : term M n k = -(M 0 k * detL n (minor M k)) := by
      unfold term sg
      rw [if_neg (by omega)]
      grind
    have h' : (k : Int).fmod 2 = 1 := fmod2.mpr h
    have x0 : fIx (rqm (rowsL (n + 1) M)) (.int 0) = some (rql (rowL (n + 1) (M 0))) := ix_rows (i := 0) (by omega)
    simp [less_rows hk hn, x0, ix_rowL hk, hc, t, m2, h', hl, (show ps.length < 1000000 by omega)]
    first | rw [e] | exact ⟨by rw [e], by rw [e]⟩
    exact ⟨(Rat.neg_num _).symm, by rw [Rat.neg_den]⟩
  · have e : term M n k = M 0 k * detL n (minor M k) := by
      unfold term sg
      rw [if_pos (by omega)]
      grind
    have h' : ¬ (k : Int).fmod 2 = 1 := fun z => h (fmod2.mp z)
    have x0 : fIx (rqm (rowsL (n + 1) M)) (.int 0) = some (rql (rowL (n + 1) (M 0))) := ix_rows (i := 0) (by omega)
    simp [less_rows hk hn, x0, ix_rowL hk, hc, t, m2, h', hl, (show ps.length < 1000000 by omega)]
    exact ⟨by rw [e], by rw [e]⟩
theorem det_step {n b : Nat} {M : Tb} {c : MP} (hn : n ≤ 4) (hM : ∀ k, k < n + 1 → Bt 40 (M 0 k)) (hc : ∀ k, k < n + 1 → c [rqm (rowsL n (minor M k))] = .ok (rq (detL n (minor M k))) ∧ Bt b (detL n (minor M k))) (b7 : b ≤ 652) :
    mDef .d 5 (bdet c) [rqm (rowsL (n + 1) M)] = .ok (rq (detL (n + 1) M)) ∧ Bt ((n + 1) * (40 + b + 2) + 1) (detL (n + 1) M) := by
  have tb : ∀ k, k < n + 1 → Bt (40 + b) (term M n k) := fun k hk => by
    have z := (hM k hk).mul (hc k hk).2
    unfold term sg
    split
    · rw [Rat.one_mul]; exact z
    · have : (-1 : Rat) * M 0 k * detL n (minor M k) = -(M 0 k * detL n (minor M k)) := by grind
      rw [this]
      exact ⟨by rw [Rat.neg_num, Int.natAbs_neg]; exact z.n, by rw [Rat.neg_den]; exact z.d⟩
  have bts : Bts (40 + b) ((List.range (n + 1)).map (term M n)) := Bts.range tb
  have se := sum_eqN bts (by simp; have : (n + 1) * (40 + b + 2) ≤ 5 * 694 := Nat.mul_le_mul (by omega) (by omega); omega)
  have sd : ((List.range (n + 1)).map (term M n)).sum = detL (n + 1) M := rfl
  rw [sd] at se
  have go := forL_range (i := 2) (s1 := bdetL0 c) (fun k => [rqm (rowsL (n + 1) M), .lst (((List.range k).map (term M n)).map rq), .non, .non, .non, .non]) (n + 1) fun k hk => by
    left
    simp only [List.set_cons_succ, List.set_cons_zero]
    rw [det_turn hk (by omega) (hM k hk) (hc k hk).1 (hc k hk).2 (by omega) (by simp; omega), List.range_succ]
    simp
  have z : fEq (rqm (rowsL (n + 1) M)) (.lst []) = some false := by
    rw [show (D.lst [] : D) = rqm [] from rfl, fEq_rqm]
    simp [rowsL, List.range_succ_eq_map]
  have z0 : (.lst (((List.range 0).map (term M n)).map rq) : D) = .lst [] := rfl
  simp only [z0] at go
  refine ⟨?_, by simpa using se.2⟩
  have ln : (rowsL (n + 1) M).length = n + 1 := by simp [rowsL]
  have rg : mRng rng1 (mCons (mCB fLen (mCons (mVar 0) mNil)) mNil) [rqm (rowsL (n + 1) M), .lst [], .non, .non, .non, .non] = .ok (ilist 0 (n + 1)) [rqm (rowsL (n + 1) M), .lst [], .non, .non, .non, .non] := by
    refine mRng1_ok ?_ (by omega)
    simp [ln]
  rw [mDef_eq]
  unfold bdet
  simp [z, -mFor_eq, -mRng_eq]
  rw [mFor_eq, rg]
  rw [forIn_ok, go]
  simp only [then_nx, mRet_eq, mCall_eq, mCons_eq, mVar_eq, mNil_eq, cons1_ok, cons2_ok, call_ok]
  have se1 := se.1
  unfold rql at se1
  simp only [List.map_map] at se1
  simp [se1]
end K15
namespace K15
open PySem L2 MR MR.DT
theorem rw_aug {n D B b : Nat} {M : Tb} {v : Nat → Rat} (D0 : 0 < D) (hD : D < 2 ^ b) (hB : B < 2 ^ b) (hM : ∀ r, r < n → ∀ c, c < n → Cn D B (M r c)) (hv : ∀ r, r < n → Cn D B (v r)) : ∀ r, r < n → Rw b (n + 1) (aug n M v r) := fun r hr =>
  ⟨D, D0, hD, fun c hc => by
    unfold aug
    split
    · rename_i h; exact (hM r hr c h).cd hB
    · exact (hv r hr).cd hB⟩
theorem bb_fits {b n : Nat} (hn : n ≤ 6) (h : bb b 6 ≤ 3325) : bb b n + bb b n + bb b n + bb b n ≤ 13300 ∧ bb b n ≤ 3325 := by
  have := bb_le (b := b) hn
  omega
theorem cn_one {D B : Nat} (D0 : 0 < D) (h : D ≤ B) : Cn D B 1 := ⟨D, by
  rw [show ((D : Nat) : Int) = 1 * (D : Int) by omega, Rat.divInt_mul_right (show (D : Int) ≠ 0 by omega)] <;> rfl, by simpa using h⟩
theorem no_left {n b D B : Nat} {M : Tb} {v x y : Nat → Rat} (D0 : 0 < D) (hD : D < 2 ^ b) (hB : B < 2 ^ b) (hDB : D ≤ B) (hM : ∀ r, r < n → ∀ c, c < n → Cn D B (M r c)) (hn : n ≤ 6) (h : bb b 6 ≤ 3325)
    (hx : ∀ r, r < n → sm n (fun c => M r c * x c) = v r) (hu : ∀ y : Nat → Rat, (∀ r, r < n → sm n (fun c => M r c * y c) = v r) → ∀ c, c < n → y c = x c) (hy : ∃ k, k < n ∧ y k ≠ 0) (hz : ∀ c, c < n → sm n (fun r => y r * M r c) = 0) : False := by
  obtain ⟨k, hk, h0⟩ := hy
  rcases solve_eq (rw_aug (v := fun r => if r = k then 1 else 0) D0 hD hB hM (fun r _ => by
      show Cn D B (if r = k then 1 else 0)
      split
      · exact cn_one D0 hDB
      · exact Cn.zero)) (bb_fits hn h).1 (by omega) with ⟨x', _, h1, _, _⟩ | ⟨_, z, ⟨c, hc, hzc⟩, hzz⟩
  · exact left_none hk h0 hz h1
  · have := hu (fun c => x c + z c) (fun r hr => by
      have e : sm n (fun c => M r c * (x c + z c)) = sm n (fun c => M r c * x c) + sm n (fun c => M r c * z c) := by
        rw [← sm_addf]
        exact sm_congr fun c _ => by grind
      rw [e, hx r hr, hzz r hr]
      grind) c hc
    exact hzc (by grind)
theorem solve_det {n b D B : Nat} {M : Tb} {v : Nat → Rat} (D0 : 0 < D) (hD : D < 2 ^ b) (hB : B < 2 ^ b) (hDB : D ≤ B) (hM : ∀ r, r < n → ∀ c, c < n → Cn D B (M r c)) (hv : ∀ r, r < n → Cn D B (v r)) (hn : n ≤ 6) (h : bb b 6 ≤ 3325) :
    (detL n M ≠ 0 ∧ ∃ x : Nat → Rat, RV.m_solve [rqm (rowsL n M), rql (rowL n v)] = .ok (rql (rowL n x)) ∧ (∀ r, r < n → sm n (fun c => M r c * x c) = v r) ∧ (∀ y : Nat → Rat, (∀ r, r < n → sm n (fun c => M r c * y c) = v r) → ∀ c, c < n → y c = x c) ∧ ∀ c, c < n → Bt (bb b n) (x c)) ∨
    (detL n M = 0 ∧ RV.m_solve [rqm (rowsL n M), rql (rowL n v)] = .exc .singular) := by
  rcases solve_eq (rw_aug D0 hD hB hM hv) (bb_fits hn h).1 (by omega) with ⟨x, e, h1, h2, h3⟩ | ⟨e, z, hz, hk⟩
  · refine .inl ⟨fun hd => ?_, x, e, h1, h2, h3⟩
    obtain ⟨y, hy, hz⟩ := detL_left hd
    exact no_left D0 hD hB hDB hM hn h h1 h2 hy hz
  · exact .inr ⟨detL_kern hz hk, e⟩
theorem solve_sing {n b D B : Nat} {M : Tb} {v y : Nat → Rat} (D0 : 0 < D) (hD : D < 2 ^ b) (hB : B < 2 ^ b) (hDB : D ≤ B) (hM : ∀ r, r < n → ∀ c, c < n → Cn D B (M r c)) (hv : ∀ r, r < n → Cn D B (v r)) (hn : n ≤ 6) (h : bb b 6 ≤ 3325)
    (hy : ∃ k, k < n ∧ y k ≠ 0) (hz : ∀ c, c < n → sm n (fun r => y r * M r c) = 0) : RV.m_solve [rqm (rowsL n M), rql (rowL n v)] = .exc .singular := by
  rcases solve_eq (rw_aug D0 hD hB hM hv) (bb_fits hn h).1 (by omega) with ⟨x, e, h1, h2, h3⟩ | ⟨e, _⟩
  · exact (no_left D0 hD hB hDB hM hn h h1 h2 hy hz).elim
  · exact e
theorem raises_eq {A V : D} (h : RV.m_solve [A, V] = .exc .singular) : m__law_raises [A, V] = .ok (.bl true) := by
  unfold m__law_raises
  rw [mDef_eq]
  unfold b__law_raises
  simp [h, tags, Err.tag, errIs]
theorem see_ok {r : Mode} {m : ME} {d : D} {ρ ρ1 : List D} (h : m ρ = .ok d ρ1) (hs : seeR r d = true) : mSee r m ρ = .ok d ρ := by
  unfold mSee
  rw [h]
  simp only [hs, if_true]
theorem seeB_ok {m : MT} {b : Bool} {ρ ρ1 : List D} (h : m ρ = .ok b ρ1) : mSeeB m ρ = .ok b ρ := by
  unfold mSeeB
  rw [h]
theorem noLs_rq : ∀ xs : List Rat, noLs (xs.map rq) = true
  | [] => rfl
  | x :: xs => by
    show (noL (rq x) && noLs (xs.map rq)) = true
    rw [noLs_rq xs]
    rfl
theorem see_rql {xs : List Rat} : seeR .o (rql xs) = true := noLs_rq xs
theorem wset_ok {i j : Nat} {b mv : ME} {ρ ρ1 ρ2 : List D} {d0 : D} {es ds : List D} {kk : Int} (hv : mv ρ = .ok d0 ρ1) (he : d0 = .lst es) (hk : b ρ1 = .ok (.int kk) ρ2) (hd : ρ2.getD i .non = .lst ds) (hj : ixN ds.length kk = some j) : mWSet i b mv ρ = .nx (ρ2.set i (.lst (ds.set j (.lst es)))) := by
  subst he
  unfold mWSet
  simp only [hv, hk, hd, hj]
theorem pSetV_ok {i k j : Nat} {z kk : Int} {a b : ME} {d : D} {ρ ρ1 ρ2 rows ds es : List D} (hv : a ρ = .ok d ρ1) (hk : ρ1.getD k .non = .int z) (hi : ρ1.getD i .non = .lst rows) (hj : ixN rows.length z = some j) (hr : rows[j]? = some (.lst ds)) (hb : b ρ1 = .ok (.int kk) ρ2) (hs : setD ds kk d = some es) :
    mPSet (plV i k) b a ρ = .nx (ρ2.set i (.lst (rows.set j (.lst es)))) := by
  have rx : rowIx i k ρ1 = some j := by
    unfold rowIx
    rw [hk, hi]
    exact hj
  have rd : ∀ ρ', (plV i k).rd ρ1 ρ' = some (.lst ds) := fun ρ' => by
    show ((rowIx i k ρ1).bind fun j => kidAt shLL Str.empty j (ρ1.getD i .non)) = _
    rw [rx, hi]
    exact hr
  have pt : (plV i k).put ρ1 ρ2 (.lst es) = ρ2.set i (.lst (rows.set j (.lst es))) := by
    show (match rowIx i k ρ1 with | some j => ρ2.set i (putKid (ρ1.getD i .non) j (.lst es)) | none => ρ2) = _
    rw [rx, hi]
    rfl
  unfold mPSet
  simp only [hv, rd, hb, hs, pt]
theorem ixN_nat {n j : Nat} (h : j < n) : ixN n (j : Int) = some j := by
  unfold ixN
  rw [if_pos (by omega), if_pos (by omega)]
  simp
theorem rowL_put {n j : Nat} {f : Nat → Rat} {x : Rat} (h : j < n) : ((rowL n f).map rq).set j (rq x) = (rowL n fun c => if c = j then x else f c).map rq := by
  refine List.ext_getElem (by simp [rowL]) fun i h1 h2 => ?_
  have hi : i < n := by simpa [rowL] using h2
  rw [List.getElem_set]
  by_cases e : j = i
  · subst e
    simp [rowL]
  · simp [rowL, e, Ne.symm e]
theorem rows_put {n j : Nat} {M : Tb} {f : Nat → Rat} (h : j < n) : ((rowsL n M).map rql).set j (rql (rowL n f)) = (rowsL n fun r => if r = j then f else M r).map rql := by
  refine List.ext_getElem (by simp [rowsL]) fun i h1 h2 => ?_
  have hi : i < n := by simpa [rowsL] using h2
  rw [List.getElem_set]
  by_cases e : j = i
  · subst e
    simp [rowsL]
  · simp [rowsL, e, Ne.symm e]
theorem rows_at {n j : Nat} {M : Tb} (h : j < n) : ((rowsL n M).map rql)[j]? = some (.lst ((rowL n (M j)).map rq)) := by
  simp [rowsL, h, rql]
theorem rowsL_len' {n : Nat} {M : Tb} : ((rowsL n M).map rql).length = n := by simp [rowsL]
theorem put_ok {i k n r j : Nat} {a b : ME} {ρ ρ2 : List D} {M : Tb} {x : Rat} (hv : a ρ = .ok (rq x) ρ) (hk : ρ.getD k .non = .int (r : Int)) (hi : ρ.getD i .non = rqm (rowsL n M)) (hr : r < n) (hb : b ρ = .ok (.int (j : Int)) ρ2) (hj : j < n) :
    mPSet (plV i k) b a ρ = .nx (ρ2.set i (rqm (rowsL n fun r' => if r' = r then fun c => if c = j then x else M r c else M r'))) := by
  rw [pSetV_ok (rows := (rowsL n M).map rql) (ds := (rowL n (M r)).map rq) (es := ((rowL n (M r)).map rq).set j (rq x)) (j := r) hv hk hi (by rw [rowsL_len']; exact ixN_nat hr) (rows_at hr) hb (setD_nat (by simpa [rowL] using hj)), rowL_put hj]
  have := rows_put (M := M) (f := fun c => if c = j then x else M r c) hr
  unfold rql at this ⊢
  rw [this]
  rfl
theorem row_ok {i n j : Nat} {b mv : ME} {ρ : List D} {M : Tb} {f : Nat → Rat} (hv : mv ρ = .ok (rql (rowL n f)) ρ) (hb : b ρ = .ok (.int (j : Int)) ρ) (hi : ρ.getD i .non = rqm (rowsL n M)) (hj : j < n) : mWSet i b mv ρ = .nx (ρ.set i (rqm (rowsL n fun r => if r = j then f else M r))) := by
  rw [wset_ok (es := (rowL n f).map rq) (ds := (rowsL n M).map rql) (j := j) hv rfl hb hi (by rw [rowsL_len']; exact ixN_nat hj)]
  have := rows_put (M := M) (f := f) hj
  unfold rql at this ⊢
  rw [this]
  rfl
end K15
namespace K15
open PySem L2 MR MR.DT
noncomputable def twoThirds : Rat := ⟨2, 3, by decide, by decide⟩
theorem two_thirds : (.tup [.int 2, .int 3] : D) = rq twoThirds := rfl
theorem twoT_cn : Cn 3 2 twoThirds := ⟨2, (Rat.num_divInt_den twoThirds).symm, by decide⟩
theorem twoT_bt : Bt 2 twoThirds := ⟨by decide, by decide⟩
theorem set_col {n at' : Nat} {f : Nat → Rat} (h : at' < n) : (rowL n f).take at' ++ [0] ++ (rowL n f).drop (at' + 1) = rowL n fun j => if j = at' then 0 else f j := put_list h
section
variable {n : Nat} {M : Tb} {c at' oth kd : Int}
theorem sp_c0 {o : Nat} (ho : o < n) (hn : n ≤ 6) (hM : ∀ r, r < n → ∀ c, c < n → Bt 20 (M r c)) {a1 a4 : D} : bC__law_spoilt_C0 [rqm (rowsL n M), a1, .int n, .int kd, a4, .int o, .non, .non, .non] = .ok (rql (rowL n fun c => M o c * twoThirds)) [rqm (rowsL n M), a1, .int n, .int kd, a4, .int o, .non, .non, .non] := by
  unfold bC__law_spoilt_C0
  simp [ix_rows ho]
  unfold rowL
  rw [List.map_map, lcX (fun c => rq (M o c * twoThirds)) (List.range n)]
  · rw [rql_range]
  · intro c hc
    have t := ltimes_eq (hM o ho c (List.mem_range.mp hc)) twoT_bt (by decide)
    unfold bC__law_spoilt_C0e
    simp [two_thirds, t]
theorem sp_c1 {a : Nat} (ha : a < n) (hn : n ≤ 6) : bC__law_spoilt_C1 [rqm (rowsL n M), .non, .int n, .int kd, .int a, .non, .non, .non, .non] = .ok (rqm (rowsL n fun r c => if c = a then 0 else M r c)) [rqm (rowsL n M), .non, .int n, .int kd, .int a, .non, .non, .non, .non] := by
  have hc : ((a : Int) + 1) = ((a + 1 : Nat) : Int) := by omega
  unfold bC__law_spoilt_C1
  simp
  unfold rowsL
  rw [List.map_map, lcX (fun r => rql (rowL n fun c => if c = a then 0 else M r c)) (List.range n)]
  · simp [rqm]
  · intro r hr
    unfold bC__law_spoilt_C1e
    simp [fSl_rql, zero_rq]
    rw [rql_one, cutD_to, fAdd_rql (by simp [rowL]; omega)]
    simp [fSl_rql]
    rw [hc, cutD_from, fAdd_rql (by simp [rowL]; omega), set_col ha]
    rfl
theorem sp_l0 (h0 : 0 < n) (hn : n ≤ 6) : ∀ k, k < n → bC__law_spoilt_L0 [rqm (rowsL n fun r c => if r < k ∧ c = 0 then 0 else M r c), .non, .int n, .int kd, .non, .non, .int k, .non, .non] = .nx [rqm (rowsL n fun r c => if r < k + 1 ∧ c = 0 then 0 else M r c), .non, .int n, .int kd, .non, .non, .non, .non, .non] := fun k hk => by
  unfold bC__law_spoilt_L0
  have p := put_ok (i := 0) (k := 6) (n := n) (r := k) (j := 0) (x := 0) (M := fun r c => if r < k ∧ c = 0 then 0 else M r c) (a := mTup (mCons (mC (.int 0)) (mCons (mC (.int 1)) mNil))) (b := mC (.int 0))
    (ρ := [rqm (rowsL n fun r c => if r < k ∧ c = 0 then 0 else M r c), .non, .int n, .int kd, .non, .non, .int k, .non, .non]) (ρ2 := [rqm (rowsL n fun r c => if r < k ∧ c = 0 then 0 else M r c), .non, .int n, .int kd, .non, .non, .int k, .non, .non]) rfl rfl rfl hk rfl h0
  rw [mKeep_eq, p]
  have e : (fun r' => if r' = k then fun c => if c = 0 then 0 else (fun r c => if r < k ∧ c = 0 then 0 else M r c : Tb) k c else (fun r c => if r < k ∧ c = 0 then 0 else M r c : Tb) r' : Tb) = fun r c => if r < k + 1 ∧ c = 0 then 0 else M r c := by
    funext r c
    by_cases h : r = k
    · subst h
      by_cases z : c = 0 <;> simp [z]
    · have : (r < k + 1 ∧ c = 0) = (r < k ∧ c = 0) := by apply propext; omega
      simp only [h, if_false, this]
  rw [e]
  simp
theorem sp_c2 (h3 : 2 < n) (hn : n ≤ 6) (hM : ∀ r, r < n → ∀ c, c < n → Bt 20 (M r c)) : bC__law_spoilt_C2 [rqm (rowsL n M), .non, .int n, .int kd, .non, .non, .non, .non, .non] = .ok (rql (rowL n fun c => M 1 c + M 2 c)) [rqm (rowsL n M), .non, .int n, .int kd, .non, .non, .non, .non, .non] := by
  have x1 : fIx (rqm (rowsL n M)) (.int 1) = some (rql (rowL n (M 1))) := ix_rows (i := 1) (by omega)
  have x2 : fIx (rqm (rowsL n M)) (.int 2) = some (rql (rowL n (M 2))) := ix_rows (i := 2) (by omega)
  have rg : mRng rng1 (mCons (mVar 2) mNil) [rqm (rowsL n M), .non, .int n, .int kd, .non, .non, .non, .non, .non] = .ok (ilist 0 n) [rqm (rowsL n M), .non, .int n, .int kd, .non, .non, .non, .non, .non] := mRng1_ok (by simp) (by omega)
  unfold bC__law_spoilt_C2
  rw [mLc_eq, rg]
  rw [lc_ok, lcR (fun c => rq (M 1 c + M 2 c)), rql_range]
  · rfl
  intro c hc
  have s := sum_pair (hM 1 (by omega) c hc) (hM 2 (by omega) c hc) (by decide)
  unfold bC__law_spoilt_C2e
  simp [x1, x2, ix_rowL hc, rql_two, s]
end
theorem cn_up {B : Nat} {x : Rat} (h : Cn 2520 B x) : Cn 7560 (B * 3) x := h.wider (E := 3) (by decide)
noncomputable abbrev SP (R c0 n kd at' oth : D) : List D := [R, c0, n, kd, at', oth, .non, .non, .non]
theorem sp_len {n : Nat} {M : Tb} {c0 a2 a3 a4 a5 : D} : mSee .d (mCB fLen (mCons (mVar 0) mNil)) (SP (rqm (rowsL n M)) c0 a2 a3 a4 a5) = .ok (.int n) (SP (rqm (rowsL n M)) c0 a2 a3 a4 a5) := by
  refine see_ok (d := .int n) (ρ1 := SP (rqm (rowsL n M)) c0 a2 a3 a4 a5) ?_ rfl
  simp [rowsL_len]
theorem spoilt_eq {n : Nat} {M : Tb} {c : Int} (h0 : 0 < n) (hn : n ≤ 4) (hM : ∀ r, r < n → ∀ c, c < n → Cn 2520 15120 (M r c)) :
    ∃ (M' : Tb) (d1 : D), mC__law_spoilt [rqm (rowsL n M), .int c] = .ok (rqm (rowsL n M')) d1 ∧ ∀ r, r < n → ∀ c, c < n → Cn 7560 90720 (M' r c) := by
  have mb : ∀ r, r < n → ∀ c, c < n → Bt 20 (M r c) := fun r hr c hc => Bt.cn (hM r hr c hc) (by decide) (by decide) (by decide)
  have up : ∀ r, r < n → ∀ c, c < n → Cn 7560 90720 (M r c) := fun r hr c hc => (cn_up (hM r hr c hc)).mono (by decide)
  have m6 : CModX c 6 := modx
  have d6 : CDivX c 6 := divx (b := 3) (by decide) (by decide)
  have mn : ∀ x : Int, CModX x n := fun _ => modx (by omega)
  have h6 := @fmod_lt c 6 (by decide)
  have ha := @fmod_lt (c.fdiv 6) n (by omega)
  obtain ⟨a, ea, la⟩ : ∃ a : Nat, (c.fdiv 6).fmod n = a ∧ a < n := ⟨((c.fdiv 6).fmod n).toNat, by omega, by omega⟩
  have ho := @fmod_lt ((a : Int) + 1) n (by omega)
  obtain ⟨o, eo, lo⟩ : ∃ o : Nat, ((a : Int) + 1).fmod n = o ∧ o < n := ⟨(((a : Int) + 1).fmod n).toNat, by omega, by omega⟩
  obtain ⟨k, ek⟩ : ∃ k : Int, c.fmod 6 = k := ⟨_, rfl⟩
  rw [ek] at h6
  have key : ∀ M' : Tb, (∃ ρ', bC__law_spoilt (SP (rqm (rowsL n M)) (.int c) .non .non .non .non) = .ret (rqm (rowsL n M')) ρ') → ∃ d1, mC__law_spoilt [rqm (rowsL n M), .int c] = .ok (rqm (rowsL n M')) d1 := fun M' ⟨ρ', e⟩ => by
    refine ⟨ρ'.getD 0 .non, ?_⟩
    show mDefB .d 7 bC__law_spoilt _ = _
    unfold mDefB
    have e2 : bC__law_spoilt ([rqm (rowsL n M), .int c] ++ List.replicate 7 .non) = .ret (rqm (rowsL n M')) ρ' := e
    rw [e2]
  have l0 := @sp_len n M (.int c) .non .non .non .non
  by_cases k2 : k = 2
  · subst k2
    refine ⟨fun r c => if c = a then 0 else M r c, ?_⟩
    have c1 := sp_c1 (M := M) (kd := 2) la (by omega)
    obtain ⟨d1, e⟩ := key (fun r c => if c = a then 0 else M r c) ⟨_, by
      unfold bC__law_spoilt
      simp [l0, m6, d6, mn, ek, ea, eo, mSplit, c1]
      rfl⟩
    refine ⟨d1, e, fun r hr c hc => ?_⟩
    show Cn 7560 90720 (if c = a then 0 else M r c)
    split
    · exact Cn.zero
    · exact up r hr c hc
  · by_cases k1 : k = 1
    · subst k1
      by_cases n1 : 1 < n
      · have n1' : (1 : Int) < n := by omega
        refine ⟨fun r => if r = a then (fun c => M o c * twoThirds) else M r, ?_⟩
        have w := row_ok (i := 0) (b := mVar 4) (mv := mSee .o bC__law_spoilt_C0) (ρ := SP (rqm (rowsL n M)) (.int c) (.int n) (.int 1) (.int a) (.int o)) (see_ok (sp_c0 lo (by omega) mb) see_rql) rfl rfl la
        obtain ⟨d1, e⟩ := key (fun r => if r = a then (fun c => M o c * twoThirds) else M r) ⟨_, by
          unfold bC__law_spoilt
          simp [l0, m6, d6, mn, ek, ea, eo, mSplit, w, n1']
          rfl⟩
        refine ⟨d1, e, fun r hr c hc => ?_⟩
        show Cn 7560 90720 ((if r = a then (fun c => M o c * twoThirds) else M r) c)
        split
        · exact ((hM o lo c hc).mul twoT_cn).mono (by decide)
        · exact up r hr c hc
      · have n1' : ¬ (1 : Int) < n := by omega
        refine ⟨M, ?_⟩
        obtain ⟨d1, e⟩ := key M ⟨_, by
          unfold bC__law_spoilt
          simp [l0, m6, d6, mn, ek, ea, eo, mSplit, n1']
          rfl⟩
        exact ⟨d1, e, up⟩
    · by_cases k3 : k = 3
      · subst k3
        refine ⟨fun r c => if r < n - 1 ∧ c = 0 then 0 else M r c, ?_⟩
        have go := forL_range (i := 6) (s1 := bC__law_spoilt_L0) (fun k => SP (rqm (rowsL n fun r c => if r < k ∧ c = 0 then 0 else M r c)) .non (.int n) (.int 3) .non .non) (n - 1) fun k hk => by
          left
          simp only [List.set_cons_succ, List.set_cons_zero]
          exact sp_l0 h0 (by omega) k (by omega)
        have z : (fun r c => if r < 0 ∧ c = 0 then 0 else M r c : Tb) = M := by
          funext r c
          simp
        simp only [z] at go
        have rg : mRng rng1 (mCons (mOp (fInt (· - ·)) (mVar 2) (mC (.int 1))) mNil) (SP (rqm (rowsL n M)) .non (.int n) (.int 3) .non .non) = .ok (ilist 0 (n - 1)) (SP (rqm (rowsL n M)) .non (.int n) (.int 3) .non .non) := mRng1_ok (n := n - 1) (by
          have : ((n : Int) - 1) = ((n - 1 : Nat) : Int) := by omega
          simp [this]) (by omega)
        have f3 : mFor (mRng rng1 (mCons (mOp (fInt (· - ·)) (mVar 2) (mC (.int 1))) mNil)) (bName 6) bC__law_spoilt_L0 (SP (rqm (rowsL n M)) .non (.int n) (.int 3) .non .non) = .nx (SP (rqm (rowsL n fun r c => if r < n - 1 ∧ c = 0 then 0 else M r c)) .non (.int n) (.int 3) .non .non) := by
          rw [mFor_eq, rg, forIn_ok]
          exact go
        obtain ⟨d1, e⟩ := key (fun r c => if r < n - 1 ∧ c = 0 then 0 else M r c) ⟨_, by
          unfold bC__law_spoilt
          simp [l0, m6, d6, mn, ek, ea, eo, mSplit, f3, -mFor_eq]
          rfl⟩
        refine ⟨d1, e, fun r hr c hc => ?_⟩
        show Cn 7560 90720 (if r < n - 1 ∧ c = 0 then 0 else M r c)
        split
        · exact Cn.zero
        · exact up r hr c hc
      · by_cases k4 : k = 4 ∧ 2 < n
        · obtain ⟨k4, n2⟩ := k4
          subst k4
          have n2' : (2 : Int) < n := by omega
          refine ⟨fun r => if r = 0 then (fun c => M 1 c + M 2 c) else M r, ?_⟩
          have w := row_ok (i := 0) (j := 0) (b := mC (.int 0)) (mv := mSee .o bC__law_spoilt_C2) (ρ := SP (rqm (rowsL n M)) .non (.int n) (.int 4) .non .non) (see_ok (sp_c2 n2 (by omega) mb) see_rql) rfl rfl h0
          obtain ⟨d1, e⟩ := key (fun r => if r = 0 then (fun c => M 1 c + M 2 c) else M r) ⟨_, by
            unfold bC__law_spoilt
            simp [l0, m6, d6, mn, ek, ea, eo, mSplit, w, n2']
            rfl⟩
          refine ⟨d1, e, fun r hr c hc => ?_⟩
          show Cn 7560 90720 ((if r = 0 then (fun c => M 1 c + M 2 c) else M r) c)
          split
          · exact (cn_up ((hM 1 (by omega) c hc).add (hM 2 n2 c hc) (by decide))).mono (by decide)
          · exact up r hr c hc
        · refine ⟨M, ?_⟩
          have k4' : k = 4 → ¬ (2 : Int) < n := fun z => by
            have : ¬ 2 < n := fun y => k4 ⟨z, y⟩
            omega
          obtain ⟨d1, e⟩ := key M ⟨_, by
            unfold bC__law_spoilt
            by_cases z : k = 4
            · have z2 := k4' z
              subst z
              simp [l0, m6, d6, mn, ek, ea, eo, mSplit, z2]
              rfl
            · simp [l0, m6, d6, mn, ek, ea, eo, mSplit, k1, k2, k3, z]
              all_goals rfl⟩
          exact ⟨d1, e, up⟩
end K15
namespace K15
open PySem L2 MR MR.DT
noncomputable abbrev GS (ns : List Int) (n : Nat) (R k t v a p o q : D) : List D := [.scr ns, .int n, R, k, t, v, a, p, o, q, .non]
noncomputable def yR (ns : List Int) (k : Nat) : Rat := Rat.divInt 1 (1 + (cellZ ns (41 + k)).fmod 3)
theorem yR_rq (ns : List Int) (k : Nat) : (.tup [.int 1, .int (1 + (cellZ ns (41 + k)).fmod 3)] : D) = rq (yR ns k) := by
  have h := @fmod_lt (cellZ ns (41 + k)) 3 (by decide)
  unfold yR
  rw [rq_divInt (by omega)]
  simp
theorem yR_cn (ns : List Int) (k : Nat) : Cn 2520 2520 (yR ns k) := by
  have h := @fmod_lt (cellZ ns (41 + k)) 3 (by decide)
  exact cn_of (k := 1) (by omega) (by omega) (by decide)
theorem yR_pos (ns : List Int) (k : Nat) : 0 < yR ns k := by
  have h := @fmod_lt (cellZ ns (41 + k)) 3 (by decide)
  unfold yR
  rcases (show (cellZ ns (41 + k)).fmod 3 = 0 ∨ (cellZ ns (41 + k)).fmod 3 = 1 ∨ (cellZ ns (41 + k)).fmod 3 = 2 by omega) with e | e | e <;> rw [e] <;> decide
noncomputable def dR (ns : List Int) (n : Nat) (A : Tb) (k : Nat) : Rat := (sm n fun c => ra (A k c)) + yR ns k
theorem dR_cn {ns : List Int} {n k : Nat} {A : Tb} (hn : n ≤ 6) (hk : k < n) (hA : ∀ r c, Cn 2520 15120 (A r c)) : Cn 2520 93240 (dR ns n A k) :=
  ((Cn.sm (fun c _ => (hA k c).ra) (by decide)).add (yR_cn ns k) (by decide)).mono (by have : n * 15120 ≤ 6 * 15120 := Nat.mul_le_mul hn (Nat.le_refl _); omega)
noncomputable def gT (ns : List Int) (n : Nat) (A : Tb) (k : Nat) : Tb := fun r c => if r < k ∧ c = r then dR ns n A r else A r c
theorem gT_row {ns : List Int} {n : Nat} {A : Tb} {k : Nat} : gT ns n A k k = A k := by
  funext c
  unfold gT
  rw [if_neg (by omega)]
theorem gT_succ {ns : List Int} {n : Nat} {A : Tb} {k : Nat} : (fun r' => if r' = k then fun c => if c = k then dR ns n A k else gT ns n A k k c else gT ns n A k r' : Tb) = gT ns n A (k + 1) := by
  funext r c
  by_cases h : r = k
  · subst h
    rw [if_pos rfl, gT_row]
    unfold gT
    by_cases z : c = r <;> simp [z]
  · rw [if_neg h]
    unfold gT
    have : (r < k + 1 ∧ c = r) = (r < k ∧ c = r) := by apply propext; omega
    simp only [this]
section
variable {ns : List Int} {n : Nat} {A : Tb}
theorem gr_c0 {k : Nat} (hk : k < n) (hn : n ≤ 6) {T : Tb} : b__law_great_C0 (GS ns n (rqm (rowsL n T)) (.int k) .non .non .non .non .non .non) = .ok (rql (rowL n fun c => ra (T k c))) (GS ns n (rqm (rowsL n T)) (.int k) .non .non .non .non .non .non) := by
  unfold b__law_great_C0
  simp [ix_rows hk]
  unfold rowL
  rw [List.map_map, lcX (fun c => rq (ra (T k c))) (List.range n)]
  · rw [rql_range]
  · intro c hc
    unfold b__law_great_C0e
    rw [← rq_abs]
    simp
theorem gr_val {k : Nat} (hk : k < n) (hn : n ≤ 6) (hA : ∀ r c, Cn 2520 15120 (A r c)) :
    mSee .d (mCall RV.m__law_sum [] (mCons (mOp fAdd b__law_great_C0 (mLst (mCons (mTup (mCons (mC (.int 1)) (mCons (mOp fAdd (mC (.int 1)) (mOp (fIntC CModX Int.fmod) (mCall RV.m__law_cell [] (mCons (mVar 0) (mCons (mOp fAdd (mC (.int 41)) (mVar 3)) mNil))) (mC (.int 3)))) mNil))) mNil))) mNil)) (GS ns n (rqm (rowsL n (gT ns n A k))) (.int k) .non .non .non .non .non .non) =
      .ok (rq (dR ns n A k)) (GS ns n (rqm (rowsL n (gT ns n A k))) (.int k) .non .non .non .non .non .non) := by
  have ce := cell_is ns (41 + k) (by omega)
  push_cast at ce
  have m3 : ∀ x, CModX x 3 := fun _ => modx
  have c0 := gr_c0 (ns := ns) hk hn (T := gT ns n A k)
  rw [gT_row] at c0
  have bts : Bts 20 (rowL n (fun c => ra (A k c)) ++ [yR ns k]) := fun x hx => by
    rcases List.mem_append.mp hx with h | h
    · obtain ⟨c, hc, rfl⟩ := List.mem_map.mp h
      exact ra_bt (Bt.cn (hA k c) (by decide) (by decide) (by decide))
    · rw [List.mem_singleton.mp h]
      exact Bt.cn (yR_cn ns k) (by decide) (by decide) (by decide)
  have s := sum_eq bts (by decide) (by simp [rowL]; omega)
  have es : (rowL n (fun c => ra (A k c)) ++ [yR ns k]).sum = dR ns n A k := by
    rw [sum_snoc]
    rfl
  rw [es] at s
  refine see_ok (ρ1 := GS ns n (rqm (rowsL n (gT ns n A k))) (.int k) .non .non .non .non .non .non) ?_ rfl
  have ad : fAdd (rql (rowL n fun c => ra (A k c))) (.lst [rq (yR ns k)]) = some (rql (rowL n (fun c => ra (A k c)) ++ [yR ns k])) := by
    rw [rql_one]
    exact fAdd_rql (by simp [rowL]; omega)
  simp [c0, ce, m3, yR_rq, ad, s]
theorem gr_l0 {k : Nat} (hk : k < n) (hn : n ≤ 6) (hA : ∀ r c, Cn 2520 15120 (A r c)) : b__law_great_L0 (GS ns n (rqm (rowsL n (gT ns n A k))) (.int k) .non .non .non .non .non .non) = .nx (GS ns n (rqm (rowsL n (gT ns n A (k + 1)))) .non .non .non .non .non .non .non) := by
  have p := put_ok (i := 2) (k := 3) (r := k) (j := k) (b := mVar 3) (gr_val (ns := ns) hk hn hA) rfl rfl hk rfl hk
  rw [gT_succ] at p
  unfold b__law_great_L0
  rw [mKeep_eq, p]
  simp
theorem gr_rows (hn : n ≤ 6) (hA : ∀ r c, Cn 2520 15120 (A r c)) : mFor (mRng rng1 (mCons (mVar 1) mNil)) (bName 3) b__law_great_L0 (GS ns n (rqm (rowsL n A)) .non .non .non .non .non .non .non) = .nx (GS ns n (rqm (rowsL n (gT ns n A n))) .non .non .non .non .non .non .non) := by
  have go := forL_range (i := 3) (s1 := b__law_great_L0) (fun k => GS ns n (rqm (rowsL n (gT ns n A k))) .non .non .non .non .non .non .non) n fun k hk => by
    left
    simp only [List.set_cons_succ, List.set_cons_zero]
    exact gr_l0 hk hn hA
  have z : gT ns n A 0 = A := by
    funext r c
    unfold gT
    simp
  simp only [z] at go
  have rg : mRng rng1 (mCons (mVar 1) mNil) (GS ns n (rqm (rowsL n A)) .non .non .non .non .non .non .non) = .ok (ilist 0 n) (GS ns n (rqm (rowsL n A)) .non .non .non .non .non .non .non) := mRng1_ok (by simp) (by omega)
  rw [mFor_eq, rg, forIn_ok]
  exact go
theorem gT_dom : Dom n (gT ns n A n) := fun r hr => by
  have e : offs n (gT ns n A n r) r = offs n (A r) r := by
    unfold offs
    refine sm_congr fun c _ => ?_
    by_cases q : c = r
    · simp [q]
    · simp [gT, q]
  have d : gT ns n A n r r = dR ns n A r := by
    unfold gT
    rw [if_pos ⟨hr, rfl⟩]
  rw [e, d]
  have y := yR_pos ns r
  have s : sm n (fun c => ra (A r c)) = ra (A r r) + offs n (A r) r := sm_split hr
  have p0 := ra_nonneg (A r r)
  have o0 := @offs_nonneg n r (A r)
  have dd : dR ns n A r = ra (A r r) + offs n (A r) r + yR ns r := by
    unfold dR
    rw [s]
  have : 0 ≤ dR ns n A r := by rw [dd]; grind
  have e2 : ra (dR ns n A r) = dR ns n A r := by
    unfold ra
    rw [if_neg (by grind)]
  rw [e2, dd]
  grind
theorem gT_cn (hn : n ≤ 6) (hA : ∀ r c, Cn 2520 15120 (A r c)) : ∀ r, r < n → ∀ c, c < n → Cn 2520 93240 (gT ns n A n r c) := fun r hr c hc => by
  unfold gT
  split
  · exact dR_cn hn hr hA
  · exact (hA r c).mono (by decide)
end
end K15
namespace K15
open PySem L2 MR MR.DT
theorem dot_rowL {n : Nat} {f x : Nat → Rat} : dot (rowL n f) (rowL n x) = sm n fun c => f c * x c := by
  unfold dot
  rw [rowL_len]
  refine sm_congr fun c hc => ?_
  rw [rowL_at hc, rowL_at hc]
noncomputable def prodV (n : Nat) (M : Tb) (x : Nat → Rat) : Nat → Rat := fun r => sm n fun c => M r c * x c
theorem mulv_rows {n : Nat} {M : Tb} {x : Nat → Rat} : mulv (rowsL n M) (rowL n x) = rowL n (prodV n M x) := by
  unfold mulv rowsL
  rw [List.map_map]
  refine List.map_congr_left fun r hr => ?_
  show dot (rowL n (M r)) (rowL n x) = prodV n M x r
  rw [dot_rowL]
  rfl
theorem bts_rowL {k n : Nat} {f : Nat → Rat} (h : ∀ c, c < n → Bt k (f c)) : Bts k (rowL n f) := .range h
theorem rows_mem {k n : Nat} {M : Tb} (h : ∀ r, r < n → ∀ c, c < n → Bt k (M r c)) : ∀ r ∈ rowsL n M, Bts k r ∧ r.length = n := fun r hr => by
  obtain ⟨i, hi, rfl⟩ := List.mem_map.mp hr
  exact ⟨bts_rowL (h i (List.mem_range.mp hi)), rowL_len⟩
theorem prod_ok {k n : Nat} {M : Tb} {x : Nat → Rat} (hn : n ≤ 6) (hM : ∀ r, r < n → ∀ c, c < n → Bt k (M r c)) (hx : ∀ c, c < n → Bt k (x c)) (k0 : 0 < k := by decide) (hk : k + k ≤ 700 := by decide) : RV.m__law_product [rqm (rowsL n M), rql (rowL n x)] = .ok (rql (rowL n (prodV n M x))) := by
  rw [lproduct_eq (k := k) (fun r hr => ⟨(rows_mem hM r hr).1, by rw [(rows_mem hM r hr).2, rowL_len]; exact Nat.le_refl _⟩) (bts_rowL hx) k0 hk (by rw [rowL_len]; omega) (by rw [rowsL_len]; omega), mulv_rows]
theorem mod_back {n t r : Nat} (ht : t < n) (hr : r < n) : ∃ q, q < n ∧ (q + t) % n = r := by
  by_cases e : t ≤ r
  · exact ⟨r - t, by omega, by rw [show r - t + t = r by omega, Nat.mod_eq_of_lt hr]⟩
  · exact ⟨r + n - t, by omega, by rw [show r + n - t + t = r + n by omega, Nat.add_mod_right, Nat.mod_eq_of_lt hr]⟩
section
variable {ns : List Int} {n t a : Nat} {M : Tb}
noncomputable def vR (ns : List Int) (b : Nat) : Nat → Rat := fun j => smallR (cellZ ns (b + j))
theorem turn_ok (ht : t < n) (hn : n ≤ 6) : fSl (some (t : Int)) none (rqm (rowsL n M)) = some (rqm ((rowsL n M).drop t)) ∧ fSl none (some (t : Int)) (rqm (rowsL n M)) = some (rqm ((rowsL n M).take t)) ∧ fLstAdd (rqm ((rowsL n M).drop t)) (rqm ((rowsL n M).take t)) = some (rqm (rowsL n fun r => M ((r + t) % n))) := by
  have e1 : fSl (some (t : Int)) none (rqm (rowsL n M)) = some (rqm ((rowsL n M).drop t)) := by rw [fSl_rqm, cutD_from]
  have e2 : fSl none (some (t : Int)) (rqm (rowsL n M)) = some (rqm ((rowsL n M).take t)) := by rw [fSl_rqm, cutD_to]
  have e3 : fLstAdd (rqm ((rowsL n M).drop t)) (rqm ((rowsL n M).take t)) = some (rqm (rowsL n fun r => M ((r + t) % n))) := by
    have hl : (((rowsL n M).drop t).map rql).length + (((rowsL n M).take t).map rql).length ≤ sizeLine := by
      have : (n : Nat) ≤ sizeLine := Nat.le_trans hn (by decide)
      simp [rowsL]
      omega
    show (if (((rowsL n M).drop t).map rql).length + (((rowsL n M).take t).map rql).length ≤ sizeLine then some (D.lst (((rowsL n M).drop t).map rql ++ ((rowsL n M).take t).map rql)) else none) = _
    rw [if_pos hl, ← List.map_append]
    unfold rowsL
    rw [turn_list ht]
    rfl
  exact ⟨e1, e2, e3⟩
theorem gr_c1 (hn : n ≤ 6) {R : D} : b__law_great_C1 (GS ns n R .non (.int t) .non .non .non .non .non) = .ok (rql (rowL n (vR ns 50))) (GS ns n R .non (.int t) .non .non .non .non .non) := by
  have rg : mRng rng1 (mCons (mVar 1) mNil) (GS ns n R .non (.int t) .non .non .non .non .non) = .ok (ilist 0 n) (GS ns n R .non (.int t) .non .non .non .non .non) := mRng1_ok (by simp) (by omega)
  unfold b__law_great_C1
  rw [mLc_eq, rg, lc_ok, lcR (fun j => rq (vR ns 50 j)), rql_range]
  · rfl
  intro j hj
  have ce := cell_is ns (50 + j) (by omega)
  push_cast at ce
  unfold b__law_great_C1e
  simp [ce, small_is, vR]
theorem gr_c2 (hn : n ≤ 6) {a4 a5 : D} : b__law_great_C2 (GS ns n (rqm (rowsL n M)) .non a4 a5 .non .non .non .non) = .ok (rqm (rowsL n M)) (GS ns n (rqm (rowsL n M)) .non a4 a5 .non .non .non .non) := by
  unfold b__law_great_C2
  simp
  unfold rowsL
  rw [List.map_map, lcX (fun r => rql (rowL n (M r))) (List.range n)]
  · simp [rqm]
  · intro r hr
    unfold b__law_great_C2e
    simp
theorem gr_c3 {f g : Nat → Rat} {p : Rat} (hn : n ≤ 6) (hf : ∀ c, c < n → Bt 30 (f c)) (hg : ∀ c, c < n → Bt 30 (g c)) (hp : Bt 30 p) {R a5 a6 : D} : b__law_great_C3 (GS ns n R .non .non a5 a6 (rql (rowL n f)) (rql (rowL n g)) (rq p)) = .ok (rql (rowL n fun c => f c + p * g c)) (GS ns n R .non .non a5 a6 (rql (rowL n f)) (rql (rowL n g)) (rq p)) := by
  have rg : mRng rng1 (mCons (mVar 1) mNil) (GS ns n R .non .non a5 a6 (rql (rowL n f)) (rql (rowL n g)) (rq p)) = .ok (ilist 0 n) (GS ns n R .non .non a5 a6 (rql (rowL n f)) (rql (rowL n g)) (rq p)) := mRng1_ok (by simp) (by omega)
  unfold b__law_great_C3
  rw [mLc_eq, rg, lc_ok, lcR (fun c => rq (f c + p * g c)), rql_range]
  · rfl
  intro c hc
  have t := ltimes_eq hp (hg c hc) (by decide)
  have s := sum_pair ((hf c hc).mono (show 30 ≤ 60 by decide)) (hp.mul (hg c hc)) (by decide)
  unfold b__law_great_C3e
  simp [ix_rowL hc, t, rql_two, s]
end
end K15
namespace K15
open PySem L2 MR MR.DT
theorem bt30 {D B : Nat} {x : Rat} (h : Cn D B x) (D0 : 0 < D) (hD : D < 2 ^ 30) (hB : B < 2 ^ 30) : Bt 30 x := Bt.cn h D0 hD hB
noncomputable def mixT (M : Tb) (a o1 o2 : Nat) (p : Rat) : Tb := fun r => if r = a then (fun c => M o1 c + p * M o2 c) else M r
theorem mix_dep {n a o1 o2 : Nat} {M : Tb} {p : Rat} (ha : a < n) (h1 : o1 < n) (h2 : o2 < n) (n1 : o1 ≠ a) (n2 : o2 ≠ a) : ∃ y : Nat → Rat, (∃ k, k < n ∧ y k ≠ 0) ∧ ∀ c, c < n → sm n (fun r => y r * mixT M a o1 o2 p r c) = 0 := by
  refine ⟨fun r => (if r = a then 1 else 0) - (if r = o1 then 1 else 0) - (if r = o2 then p else 0), ⟨a, ha, ?_⟩, fun c hc => ?_⟩
  · simp only [if_pos rfl, if_neg (Ne.symm n1), if_neg (Ne.symm n2)]
    grind
  · have e : sm n (fun r => ((if r = a then 1 else 0) - (if r = o1 then 1 else 0) - (if r = o2 then p else 0)) * mixT M a o1 o2 p r c) = sm n (fun r => (if r = a then 1 else 0) * mixT M a o1 o2 p r c) - sm n (fun r => (if r = o1 then 1 else 0) * mixT M a o1 o2 p r c) - sm n (fun r => (if r = o2 then p else 0) * mixT M a o1 o2 p r c) := by
      rw [← sm_subf, ← sm_subf]
      exact sm_congr fun r _ => by grind
    rw [e, sm_pick (x := fun r => mixT M a o1 o2 p r c) ha, sm_pick (x := fun r => mixT M a o1 o2 p r c) h1, sm_pick (x := fun r => mixT M a o1 o2 p r c) h2]
    simp only [mixT, if_pos rfl, n1, n2, if_false]
    grind
theorem great_eq (ns : List Int) : m__law_great [.scr ns] = .ok (.bl true) := by
  have k40 : RV.m__law_cell [.scr ns, .int 40] = .ok (.int (cellZ ns 40)) := cell_is ns 40 (by decide)
  have k48 : RV.m__law_cell [.scr ns, .int 48] = .ok (.int (cellZ ns 48)) := cell_is ns 48 (by decide)
  have k49 : RV.m__law_cell [.scr ns, .int 49] = .ok (.int (cellZ ns 49)) := cell_is ns 49 (by decide)
  have m2 : ∀ x, CModX x 2 := fun _ => modx
  have d6 : ∀ x, CDivX x 6 := fun _ => divx (b := 3) (by decide) (by decide)
  obtain ⟨n, en, n5, n6⟩ : ∃ n : Nat, 5 + (cellZ ns 40).fmod 2 = n ∧ 5 ≤ n ∧ n ≤ 6 := by
    have := @fmod_lt (cellZ ns 40) 2 (by decide)
    exact ⟨(5 + (cellZ ns 40).fmod 2).toNat, by omega, by omega, by omega⟩
  have mn : ∀ x : Int, CModX x n := fun _ => modx (by omega)
  have hA : ∀ r c, Cn 2520 15120 (drawn ns 3 n r c) := fun r c => small_cn _
  have rw1 : m__law_rows [.scr ns, .int 3, .int n] = .ok (rqm (rowsL n (drawn ns 3 n))) := rows_eq (ns := ns) (a := 3) (n := n) (by decide) n6
  have f1 := gr_rows (ns := ns) (n := n) (A := drawn ns 3 n) n6 hA
  have dm := gT_dom (ns := ns) (n := n) (A := drawn ns 3 n)
  have mc := gT_cn (ns := ns) (n := n) (A := drawn ns 3 n) n6 hA
  generalize gT ns n (drawn ns 3 n) n = M at f1 dm mc
  have h48 := @fmod_lt (cellZ ns 48) n (by omega)
  obtain ⟨t, et, lt⟩ : ∃ t : Nat, (cellZ ns 48).fmod n = t ∧ t < n := ⟨((cellZ ns 48).fmod n).toNat, by omega, by omega⟩
  obtain ⟨tu1, tu2, tu⟩ := turn_ok (n := n) (t := t) (M := M) lt n6
  have c1c : ∀ r, r < n → ∀ c, c < n → Cn 2520 93240 (M ((r + t) % n) c) := fun r _ c hc => mc _ (Nat.mod_lt _ (by omega)) c hc
  have ker : ∀ z : Nat → Rat, (∀ r, r < n → sm n (fun c => M ((r + t) % n) c * z c) = 0) → ∀ c, c < n → z c = 0 := fun z hz => dm.kernel fun r hr => by
    obtain ⟨q, hq, e⟩ := mod_back lt hr
    have := hz q hq
    rw [e] at this
    exact this
  generalize hM1 : (fun r => M ((r + t) % n) : Tb) = M1 at tu
  have c1 : ∀ r, r < n → ∀ c, c < n → Cn 2520 93240 (M1 r c) := fun r hr c hc => by rw [← hM1]; exact c1c r hr c hc
  have ker1 : ∀ z : Nat → Rat, (∀ r, r < n → sm n (fun c => M1 r c * z c) = 0) → ∀ c, c < n → z c = 0 := by rw [← hM1]; exact ker
  have vc : ∀ c, c < n → Cn 2520 15120 (vR ns 50 c) := fun c _ => small_cn _
  have b1 : ∀ r, r < n → ∀ c, c < n → Bt 30 (M1 r c) := fun r hr c hc => bt30 (c1 r hr c hc) (by decide) (by decide) (by decide)
  have bv : ∀ c, c < n → Bt 30 (vR ns 50 c) := fun c hc => bt30 (vc c hc) (by decide) (by decide) (by decide)
  have g1 := gr_c1 (ns := ns) (n := n) (t := t) n6 (R := rqm (rowsL n M1))
  generalize hv : vR ns 50 = v at g1 vc bv
  have g2 := gr_c2 (ns := ns) (n := n) (M := M1) n6 (a4 := .int t) (a5 := rql (rowL n v))
  have p1 := prod_ok n6 b1 bv
  have n6' : n * (93240 * 15120) ≤ 6 * (93240 * 15120) := Nat.mul_le_mul n6 (Nat.le_refl _)
  have so : RV.m_solve [rqm (rowsL n M1), rql (rowL n (prodV n M1 v))] = .ok (rql (rowL n v)) := by
    rcases solve_eq (b := 34) (rw_aug (D := 2520 * 2520) (B := 6 * (93240 * 15120)) (M := M1) (v := prodV n M1 v) (by decide) (by decide) (by decide) (fun r hr c hc => ((c1 r hr c hc).wider (E := 2520) (by decide)).mono (by decide)) (fun r hr => (Cn.sm (fun c hc => (c1 r hr c hc).mul (vc c hc)) (by decide)).mono n6')) (bb_fits n6 (by decide)).1 (by omega) with ⟨x, e, _, h2, _⟩ | ⟨_, z, ⟨c, hc, hz⟩, hk⟩
    · rw [e, rowL_congr (h2 v fun r _ => rfl)]
    · exact absurd (ker1 z hk c hc) hz
  have test : mSeeB (mCmpT fNe (mCall RV.m_solve [] (mCons b__law_great_C2 (mCons (mCall RV.m__law_product [] (mCons (mVar 2) (mCons (mVar 5) mNil))) mNil))) (mVar 5)) (GS ns n (rqm (rowsL n M1)) .non (.int t) (rql (rowL n v)) .non .non .non .non) = .ok false (GS ns n (rqm (rowsL n M1)) .non (.int t) (rql (rowL n v)) .non .non .non .non) := by
    refine seeB_ok (ρ1 := GS ns n (rqm (rowsL n M1)) .non (.int t) (rql (rowL n v)) .non .non .non .non) ?_
    simp [g2, p1, so, fNe_rql]
  have h49 := @fmod_lt (cellZ ns 49) n (by omega)
  obtain ⟨a, ea, la⟩ : ∃ a : Nat, (cellZ ns 49).fmod n = a ∧ a < n := ⟨((cellZ ns 49).fmod n).toNat, by omega, by omega⟩
  have md : ∀ x : Nat, (x : Int).fmod n = ((x % n : Nat) : Int) := fun x => by
    rw [Int.fmod_eq_emod_of_nonneg _ (by omega)]
    rfl
  have eo1 : ((a : Int) + 1).fmod n = (((a + 1) % n : Nat) : Int) := by rw [← md]; rfl
  have eo2 : ((a : Int) + 2).fmod n = (((a + 2) % n : Nat) : Int) := by rw [← md]; rfl
  have l1 : (a + 1) % n < n := Nat.mod_lt _ (by omega)
  have l2 : (a + 2) % n < n := Nat.mod_lt _ (by omega)
  have x1 : (a + 1) % n ≠ a := fun z => by
    by_cases q : a + 1 < n
    · rw [Nat.mod_eq_of_lt q] at z; omega
    · rw [show a + 1 = n by omega, Nat.mod_self] at z; omega
  have x2 : (a + 2) % n ≠ a := fun z => by
    by_cases q : a + 2 < n
    · rw [Nat.mod_eq_of_lt q] at z; omega
    · rw [show a + 2 = (a + 2 - n) + n by omega, Nat.add_mod_right, Nat.mod_eq_of_lt (by omega)] at z; omega
  generalize (a + 1) % n = o1 at eo1 l1 x1
  generalize (a + 2) % n = o2 at eo2 l2 x2
  have i1 : fIxO (rqm (rowsL n M1)) (.int o1) = some (rql (rowL n (M1 o1))) := ix_rows l1
  have i2 : fIxO (rqm (rowsL n M1)) (.int o2) = some (rql (rowL n (M1 o2))) := ix_rows l2
  have pc : Cn 2520 15120 (smallR ((cellZ ns 49).fdiv 6)) := small_cn _
  have ps := small_is ((cellZ ns 49).fdiv 6)
  generalize smallR ((cellZ ns 49).fdiv 6) = p at pc ps
  have g3 := gr_c3 (ns := ns) (p := p) n6 (b1 o1 l1) (b1 o2 l2) (bt30 pc (by decide) (by decide) (by decide)) (R := rqm (rowsL n M1)) (a5 := rql (rowL n v)) (a6 := .int a)
  have sD : setD ((rowsL n M1).map rql) (a : Int) (rql (rowL n fun c => M1 o1 c + p * M1 o2 c)) = some ((rowsL n (mixT M1 a o1 o2 p)).map rql) := by
    rw [setD_nat (by simpa [rowsL] using la), rows_put la]
    rfl
  have mx : ∀ r, r < n → ∀ c, c < n → Cn (2520 * 2520) 1644753600 (mixT M1 a o1 o2 p r c) := fun r hr c hc => by
    unfold mixT
    split
    · exact (((c1 o1 l1 c hc).wider (E := 2520) (by decide)).add (pc.mul (c1 o2 l2 c hc)) (by decide)).mono (by decide)
    · exact ((c1 r hr c hc).wider (E := 2520) (by decide)).mono (by decide)
  obtain ⟨y, y1, y2⟩ := mix_dep (M := M1) (p := p) la l1 l2 x1 x2
  have vc2 : ∀ c, c < n → Cn (2520 * 2520) 1644753600 (v c) := fun c hc => ((vc c hc).wider (E := 2520) (by decide)).mono (by decide)
  have s1 := solve_sing (b := 31) (D := 2520 * 2520) (B := 1644753600) (M := mixT M1 a o1 o2 p) (v := v) (by decide) (by decide) (by decide) (by decide) mx vc2 n6 (by decide) y1 y2
  have n7 : n * (1644753600 * 15120) ≤ 6 * (1644753600 * 15120) := Nat.mul_le_mul n6 (Nat.le_refl _)
  have s2 := solve_sing (b := 48) (D := 2520 * 2520 * 2520) (B := 6 * (1644753600 * 15120)) (M := mixT M1 a o1 o2 p) (v := prodV n (mixT M1 a o1 o2 p) v) (by decide) (by decide) (by decide) (by decide) (fun r hr c hc => ((mx r hr c hc).wider (E := 2520) (by decide)).mono (by decide)) (fun r hr => (Cn.sm (fun c hc => (mx r hr c hc).mul (vc c hc)) (by decide)).mono n7) n6 (by decide) y1 y2
  have p2 := prod_ok (k := 40) n6 (M := mixT M1 a o1 o2 p) (x := v) (fun r hr c hc => Bt.cn (mx r hr c hc) (by decide) (by decide) (by decide)) (fun c hc => (bv c hc).mono (by decide))
  have r1 : m__law_raises [.lst ((rowsL n (mixT M1 a o1 o2 p)).map rql), rql (rowL n v)] = .ok (.bl true) := raises_eq s1
  have r2 : m__law_raises [.lst ((rowsL n (mixT M1 a o1 o2 p)).map rql), rql (rowL n (prodV n (mixT M1 a o1 o2 p) v))] = .ok (.bl true) := raises_eq s2
  have p2' : RV.m__law_product [.lst ((rowsL n (mixT M1 a o1 o2 p)).map rql), rql (rowL n v)] = .ok (rql (rowL n (prodV n (mixT M1 a o1 o2 p) v))) := p2
  unfold m__law_great
  rw [mDef_eq]
  unfold b__law_great
  simp [k40, k48, k49, m2, d6, en, mn, rw1, f1, et, tu, tu1, tu2, g1, test, ea, eo1, eo2, i1, i2, ps, g3, sD, r1, r2, p2', -mFor_eq]
end K15
namespace K15
open PySem L2 MR MR.DT
noncomputable def be : Nat → Nat
  | 0 => 2
  | 1 => 45
  | 2 => 175
  | 3 => 652
  | _ => 2777
noncomputable def DetOk (c : MP) (m : Nat) : Prop := ∀ n, n ≤ m → ∀ M : Tb, (∀ i, i < n → ∀ j, j < n → Bt 40 (M i j)) → c [rqm (rowsL n M)] = .ok (rq (detL n M)) ∧ Bt (be n) (detL n M)
theorem det_up {c : MP} {m : Nat} (hm : m ≤ 3) (H : DetOk c m) : DetOk (mDef .d 5 (bdet c)) (m + 1) := fun n hn M hM => by
  cases n with
  | zero => exact ⟨det0_eq _ _, (⟨by decide, by decide⟩ : Bt 2 (1 : Rat))⟩
  | succ n =>
    have b7 : be n ≤ 652 := by
      rcases (show n = 0 ∨ n = 1 ∨ n = 2 ∨ n = 3 by omega) with e | e | e | e <;> subst e <;> decide
    have st := det_step (n := n) (b := be n) (M := M) (c := c) (by omega) (fun k hk => hM 0 (by omega) k hk) (fun k hk => H n (by omega) _ fun i hi j hj => hM _ (by omega) _ (by split <;> omega)) b7
    have e : (n + 1) * (40 + be n + 2) + 1 = be (n + 1) := by
      rcases (show n = 0 ∨ n = 1 ∨ n = 2 ∨ n = 3 by omega) with e | e | e | e <;> subst e <;> rfl
    rw [e] at st
    exact st
theorem det_first (c : MP) : DetOk (mDef .d 5 (bdet c)) 0 := fun n hn M _ => by
  have : n = 0 := by omega
  subst this
  exact ⟨det0_eq _ _, (⟨by decide, by decide⟩ : Bt 2 (1 : Rat))⟩
theorem det_R5 : DetOk m__law_determinant_R5 4 := by
  have h1 := det_first m__law_determinant_R0
  have h2 := det_up (by decide) h1
  have h3 := det_up (by decide) h2
  have h4 := det_up (by decide) h3
  exact det_up (by decide) h4
theorem callC_ok {sh : Sh} {f : MPB} {m0 : ME} {a : MA} {ρ ρ1 ρ2 : List D} {d0 d d1 : D} {ds : List D} (h0 : m0 ρ = .ok d0 ρ1) (ha : a ρ1 = .ok ds ρ2) (hk : kindOk sh d0 = true) (hf : f (d0 :: ds) = .ok d d1) : mCallC sh f [] m0 a ρ = .ok d ρ2 := by
  unfold mCallC
  rw [h0, bind_ok, ha, bind_ok, if_pos hk, List.append_nil, hf]
theorem kept_eq {A : List (List Rat)} {b : List Rat} : fEq (.tup [rqm A, rql b]) (.tup [rqm A, rql b]) = some true := by
  have p : plain 4 (.tup [rqm A, rql b]) = true := by
    show plains 3 [rqm A, rql b] = true
    show (plain 3 (rqm A) && (plain 3 (rql b) && true)) = true
    have h1 : plain 3 (rqm A) = true := plain_rqm
    have h2 : plain 3 (rql b) = true := plains_map fun _ _ => rfl
    rw [h1, h2]
    rfl
  rw [fEq_plain p p]
  show some (eqvD (rqm A) (rqm A) && (eqvD (rql b) (rql b) && true)) = _
  rw [eqvD_rqm, eqvD_rql]
  simp
theorem kept_ne {A : List (List Rat)} {b : List Rat} : fNe (.tup [rqm A, rql b]) (.tup [rqm A, rql b]) = some false := by
  unfold fNe
  rw [kept_eq]
  rfl
noncomputable abbrev LS (ns : List Int) (n R v u kp x y : D) : List D := [.scr ns, n, R, v, u, kp, x, y, .non, .non]
section
variable {ns : List Int} {n : Nat} {M : Tb}
theorem l_c0 (hn : n ≤ 6) {R : D} : b_law_C0 (LS ns (.int n) R .non .non .non .non .non) = .ok (rql (rowL n (vR ns 20))) (LS ns (.int n) R .non .non .non .non .non) := by
  have rg : mRng rng1 (mCons (mVar 1) mNil) (LS ns (.int n) R .non .non .non .non .non) = .ok (ilist 0 n) (LS ns (.int n) R .non .non .non .non .non) := mRng1_ok (by simp) (by omega)
  unfold b_law_C0
  rw [mLc_eq, rg, lc_ok, lcR (fun j => rq (vR ns 20 j)), rql_range]
  · rfl
  intro j hj
  have ce := cell_is ns (20 + j) (by omega)
  push_cast at ce
  unfold b_law_C0e
  simp [ce, small_is, vR]
theorem l_c1 (hn : n ≤ 6) {R v : D} : b_law_C1 (LS ns (.int n) R v .non .non .non .non) = .ok (rql (rowL n (vR ns 30))) (LS ns (.int n) R v .non .non .non .non) := by
  have rg : mRng rng1 (mCons (mVar 1) mNil) (LS ns (.int n) R v .non .non .non .non) = .ok (ilist 0 n) (LS ns (.int n) R v .non .non .non .non) := mRng1_ok (by simp) (by omega)
  unfold b_law_C1
  rw [mLc_eq, rg, lc_ok, lcR (fun j => rq (vR ns 30 j)), rql_range]
  · rfl
  intro j hj
  have ce := cell_is ns (30 + j) (by omega)
  push_cast at ce
  unfold b_law_C1e
  simp [ce, small_is, vR]
theorem l_c2 (hn : n ≤ 6) {v u : D} : b_law_C2 (LS ns (.int n) (rqm (rowsL n M)) v u .non .non .non) = .ok (rqm (rowsL n M)) (LS ns (.int n) (rqm (rowsL n M)) v u .non .non .non) := by
  unfold b_law_C2
  simp
  unfold rowsL
  rw [List.map_map, lcX (fun r => rql (rowL n (M r))) (List.range n)]
  · simp [rqm]
  · intro r hr
    unfold b_law_C2e
    simp
theorem l_for {x : Nat → Rat} {k : Nat} (hx : ∀ c, c < n → Bt k (x c)) (hk : k ≤ 13500) {R v u : D} : forL (bName 7) b_law_L0 ((rowL n x).map rq) (LS ns .non R v u .non (rql (rowL n x)) .non) = .nx (LS ns .non R v u .non (rql (rowL n x)) .non) := by
  refine forL_same fun d hd => ?_
  obtain ⟨y, hy, rfl⟩ := List.mem_map.mp hd
  obtain ⟨c, hc, rfl⟩ := List.mem_map.mp hy
  have b := (hx c (List.mem_range.mp hc)).mono hk
  have ir := is_ratio_eq b.n b.d
  refine ⟨_, rfl, .inl ?_⟩
  unfold b_law_L0
  simp [ir]
end
theorem law_ok (ns : List Int) (h : ns.length ≤ 63) (hb : ∀ z ∈ ns, z.natAbs < 2 ^ bitsMost) : m_law [.scr ns] = .ok (.bl true) := by
  have k0 : RV.m__law_cell [.scr ns, .int 0] = .ok (.int (cellZ ns 0)) := cell_is ns 0 (by decide)
  have k1 : RV.m__law_cell [.scr ns, .int 1] = .ok (.int (cellZ ns 1)) := cell_is ns 1 (by decide)
  have k2 : RV.m__law_cell [.scr ns, .int 2] = .ok (.int (cellZ ns 2)) := cell_is ns 2 (by decide)
  have m4 : ∀ x, CModX x 4 := fun _ => modx
  have m3 : ∀ x, CModX x 3 := fun _ => modx
  have gr := great_eq ns
  obtain ⟨n, en, h0, n4⟩ : ∃ n : Nat, 1 + (cellZ ns 0).fmod 4 = n ∧ 0 < n ∧ n ≤ 4 := by
    have := @fmod_lt (cellZ ns 0) 4 (by decide)
    exact ⟨(1 + (cellZ ns 0).fmod 4).toNat, by omega, by omega, by omega⟩
  have rw1 : m__law_rows [.scr ns, .int 3, .int n] = .ok (rqm (rowsL n (drawn ns 3 n))) := rows_eq (ns := ns) (a := 3) (n := n) (by decide) (by omega)
  obtain ⟨M, d1, sp, mc⟩ := spoilt_eq (c := cellZ ns 1) h0 n4 (fun r _ c _ => (small_cn _ : Cn 2520 15120 (drawn ns 3 n r c)))
  have cc : mCallC (.l (.all (.l (.all .d)))) mC__law_spoilt [] (mCall m__law_rows [] (mCons (mVar 0) (mCons (mC (.int 3)) (mCons (mVar 1) mNil)))) (mCons (mCall RV.m__law_cell [] (mCons (mVar 0) (mCons (mC (.int 1)) mNil))) mNil) (LS ns (.int n) .non .non .non .non .non .non) = .ok (rqm (rowsL n M)) (LS ns (.int n) .non .non .non .non .non .non) :=
    callC_ok (d0 := rqm (rowsL n (drawn ns 3 n))) (ds := [.int (cellZ ns 1)]) (d1 := d1) (ρ1 := LS ns (.int n) .non .non .non .non .non .non) (by simp [rw1]) (by simp [k1]) rfl sp
  have c0 := l_c0 (ns := ns) (n := n) (R := rqm (rowsL n M)) (by omega)
  have c1 := l_c1 (ns := ns) (n := n) (R := rqm (rowsL n M)) (v := rql (rowL n (vR ns 20))) (by omega)
  have vc : ∀ c, c < n → Cn 2520 15120 (vR ns 20 c) := fun c _ => small_cn _
  have uc : ∀ c, c < n → Cn 2520 15120 (vR ns 30 c) := fun c _ => small_cn _
  generalize vR ns 20 = v at c0 c1 vc
  generalize vR ns 30 = u at c1 uc
  have b20 : ∀ r, r < n → ∀ c, c < n → Bt 20 (M r c) := fun r hr c hc => Bt.cn (mc r hr c hc) (by decide) (by decide) (by decide)
  have bv : ∀ c, c < n → Bt 20 (v c) := fun c hc => Bt.cn (vc c hc) (by decide) (by decide) (by decide)
  have pv := prod_ok (k := 20) (by omega) b20 bv
  have n7 : n * (90720 * 15120) ≤ 4 * (90720 * 15120) := Nat.mul_le_mul n4 (Nat.le_refl _)
  obtain ⟨q3, e3⟩ : ∃ q : Int, (cellZ ns 2).fmod 3 = q := ⟨_, rfl⟩
  obtain ⟨w, ew⟩ : ∃ w : Nat → Rat, w = if q3 = 0 then u else prodV n M v := ⟨_, rfl⟩
  have mD : ∀ r, r < n → ∀ c, c < n → Cn 19051200 5486745600 (M r c) := fun r hr c hc => ((mc r hr c hc).wider (E := 2520) (by decide)).mono (by decide)
  have wD : ∀ r, r < n → Cn 19051200 5486745600 (w r) := fun r hr => by
    rw [ew]
    split
    · exact ((uc r hr).wider (E := 7560) (by decide)).mono (by decide)
    · exact (Cn.sm (fun c hc => (mc r hr c hc).mul (vc c hc)) (by decide)).mono n7
  have c2 : ∀ u' : D, b_law_C2 (LS ns (.int n) (rqm (rowsL n M)) (rql (rowL n v)) u' .non .non .non) = .ok (rqm (rowsL n M)) (LS ns (.int n) (rqm (rowsL n M)) (rql (rowL n v)) u' .non .non .non) := fun u' => l_c2 (by omega)
  have dt := (det_R5 n n4 M fun i hi j hj => (b20 i hi j hj).mono (by decide)).1
  have ke := @kept_eq (rowsL n M) (rowL n w)
  have kn := @kept_ne (rowsL n M) (rowL n w)
  unfold m_law
  rw [mDef_eq]
  unfold b_law
  rcases solve_det (b := 33) (D := 19051200) (B := 5486745600) (M := M) (v := w) (by decide) (by decide) (by decide) (by decide) mD wD (by omega) (by decide) with ⟨dn, x, e, h1, h2, h3⟩ | ⟨dz, e⟩
  · have dq : decide (detL n M = 0) = false := decide_eq_false dn
    have x3 : ∀ c, c < n → Bt 2175 (x c) := fun c hc => (h3 c hc).mono (Nat.le_trans (bb_le (show n ≤ 6 by omega)) (by decide))
    have fr := l_for (ns := ns) (R := rqm (rowsL n M)) (v := rql (rowL n v)) (u := rql (rowL n w)) x3 (by decide)
    have xv : q3 ≠ 0 → rowL n x = rowL n v := fun z => (rowL_congr (h2 v fun r _ => by rw [ew, if_neg z]; rfl)).symm
    have pw : prodV n M x = prodV n M x := rfl
    have px : RV.m__law_product [rqm (rowsL n M), rql (rowL n x)] = .ok (rql (rowL n w)) := by
      rw [lproduct_eqN (k := 20) (l := 2175) (fun r hr => ⟨(rows_mem b20 r hr).1, by rw [(rows_mem b20 r hr).2, rowL_len]; exact Nat.le_refl _⟩) (bts_rowL x3) (by decide) (by decide) (by rw [rowL_len]; omega) (by rw [rowL_len]; omega) (by rw [rowsL_len]; omega), mulv_rows, rowL_congr (f := prodV n M x) (g := w) h1]
    by_cases z : q3 = 0
    · rw [if_pos z] at ew
      subst ew
      simp [gr, k0, k2, m4, m3, en, cc, c0, c1, c2, dt, zero_rq, dq, e, kn, fr, px, fEq_rql, rowL_len, e3, z]
    · rw [if_neg z] at ew
      subst ew
      rw [xv z] at fr px e
      simp [gr, k0, k2, m4, m3, en, cc, c0, c1, c2, dt, zero_rq, dq, e, kn, fr, px, fEq_rql, fNe_rql, rowL_len, e3, z, pv]
  · have ra := raises_eq e
    have dq : decide (detL n M = 0) = true := decide_eq_true dz
    by_cases z : q3 = 0
    · rw [if_pos z] at ew
      subst ew
      simp [gr, k0, k2, m4, m3, en, cc, c0, c1, c2, dt, zero_rq, dz, ra, ke, e3, z]
    · rw [if_neg z] at ew
      subst ew
      simp [gr, k0, k2, m4, m3, en, cc, c0, c1, c2, dt, zero_rq, dz, ra, ke, e3, z, pv]
end K15
namespace K15
open PySem L2 MR
noncomputable def top (i : Nat) : Stmt := PySem.Challenge.pw_rivalprices_k15_equations_solved_or_sing.main.body.getD i (.Pass ⟨0, 0, 0, 0⟩)
structure Txt (K : PySem.W.Frag) (mg : Str → Option Value) (G : Cl) : Prop where
  z_len : mg "len" = none
  z_int : mg "int" = none
  z_abs : mg "abs" = none
  z_range : mg "range" = none
  z_isinstance : mg "isinstance" = none
  z_bool : mg "bool" = none
  z_zip : mg "zip" = none
  z_list : mg "list" = none
  z_enumerate : mg "enumerate" = none
  z_tuple : mg "tuple" = none
  c_ZERO : GlobD K mg G "ZERO" (.tup [(.int 0), (.int 1)])
  e_InvalidRatio : ExcO K mg G "InvalidRatio" .ratio
  e_Singular : ExcO K mg G "Singular" .singular
  m_Singular : CatchO K mg G "Singular" 1 tags
  i_PriceError : IsO K mg G "PriceError" 8 tags
  xc : ExcCs K G tags
section
variable {P : Program} {w : World} {K : PySem.W.Frag} {mg : Str → Option Value} {base : Heap} {G : Cl}
theorem sc__law_cell : FnScope ["_law_script", "_law_k"] ["_law_script", "_law_k"] (defScope (top 16)) := ⟨rfl, rfl, rfl, by decide +kernel, rfl, by decide +kernel, by decide +kernel⟩
theorem okm__law_cell {f : Addr} {fd : FuncData} (F : Fun K "_law_cell" "_law_cell" (top 16) f fd) (T : Txt K mg G) : FnOk P w K mg base (L2.CX P w) 1 f fd ["_law_script", "_law_k"] (spP K G 2 .d RV.m__law_cell) := by
  have sc := sc__law_cell
  exact fn_ok (μe := []) F sc rfl rfl fun cdv A outer s H E hr => (jss_cons (js_if (jt_cmp opr_lt opb_lt (je_var 1) (je_cb call_len cd_len T.z_len (ja_cons (je_var 0) ja_nil)))
  (jss_one (js_ret (je_ct call_intOf cd_int T.z_int (ja_cons (je_ix (je_var 0) (je_var 1)) ja_nil))))
  (jss_weak (μ' := [.x, .d]) jss_nil))
  (jss_one (js_ret (je_add (je_mul je_int (je_var 1)) je_int))))
theorem sc__law_low : FnScope ["_law_n", "_law_d", "_law_a", "_law_b"] ["_law_n", "_law_d"] (defScope (top 17)) := ⟨rfl, rfl, rfl, by decide +kernel, rfl, by decide +kernel, by decide +kernel⟩
theorem okm__law_low {f : Addr} {fd : FuncData} (F : Fun K "_law_low" "_law_low" (top 17) f fd) (T : Txt K mg G) : FnOk P w K mg base (L2.CX P w) 1 f fd ["_law_n", "_law_d"] (spP K G 2 .d RV.m__law_low) := by
  have sc := sc__law_low
  exact fn_ok (μe := []) F sc rfl rfl fun cdv A outer s H E hr => (jss_cons (js_asg (i := 2) sc.nd (je_cb call_abs cd_abs T.z_abs (ja_cons (je_var 0) ja_nil)))
  (jss_cons (js_asg (i := 3) sc.nd (je_cb call_abs cd_abs T.z_abs (ja_cons (je_var 1) ja_nil)))
  (jss_cons (js_while (fun ρ => (ρ.getD 3 .non).nat + 1) po_of (jt_cmp opr_gt opb_gt (je_var 3) je_int)
  (jss_one (js_par (i := 2) (j := 3) sc.nd (je_var 3) (je_mod (je_ct call_intOf cd_int T.z_int (ja_cons (je_var 2) ja_nil)) (je_var 3)))))
  (jss_cons (js_if (jt_cmp opr_lt opb_lt (je_var 1) je_int)
  (jss_one (js_ret (je_tup (ja_cons (je_sub je_int (je_div (je_var 0) (je_var 2))) (ja_cons (je_sub je_int (je_div (je_var 1) (je_var 2))) ja_nil)))))
  (jss_weak (μ' := [.d, .d, .d, .x]) jss_nil))
  (jss_one (js_ret (je_tup (ja_cons (je_div (je_var 0) (je_var 2)) (ja_cons (je_div (je_var 1) (je_var 2)) ja_nil)))))))))
theorem sc__law_small : FnScope ["_law_cell_here"] ["_law_cell_here"] (defScope (top 19)) := ⟨rfl, rfl, rfl, by decide +kernel, rfl, by decide +kernel, by decide +kernel⟩
theorem okm__law_small {f : Addr} {fd : FuncData} (F : Fun K "_law_small" "_law_small" (top 19) f fd) (T : Txt K mg G) (d__law_low : DefO P w K mg base G "_law_low" 2 .d RV.m__law_low 1 []) : FnOk P w K mg base (L2.CX P w) 2 f fd ["_law_cell_here"] (spP K G 1 .d RV.m__law_small) := by
  have sc := sc__law_small
  exact fn_ok (μe := []) F sc rfl rfl fun cdv A outer s H E hr => (jss_one (js_ret (je_call d__law_low (hr.mono (by decide)) tk_of (ja_cons (je_sub (je_mod (je_var 0) je_int) je_int) (ja_cons (je_add je_int (je_mod (je_div (je_var 0) je_int) (je_ix (je_lst (ja_cons je_int (ja_cons je_int (ja_cons je_int ja_nil)))) (je_mod (je_div (je_var 0) je_int) je_int)))) ja_nil)) (alen_cons (alen_cons alen_nil)))))
theorem sc__law_rows : FnScope ["_law_script", "_law_at", "_law_count", "_law_rows_here", "_law_i", "_law_j"] ["_law_script", "_law_at", "_law_count"] (defScope (top 20)) := ⟨rfl, rfl, rfl, by decide +kernel, rfl, by decide +kernel, by decide +kernel⟩
theorem okm__law_rows {f : Addr} {fd : FuncData} (F : Fun K "_law_rows" "_law_rows" (top 20) f fd) (T : Txt K mg G) (d__law_cell : DefO P w K mg base G "_law_cell" 2 .d RV.m__law_cell 1 []) (d__law_small : DefO P w K mg base G "_law_small" 1 .d RV.m__law_small 2 []) : FnOk P w K mg base (L2.CX P w) 3 f fd ["_law_script", "_law_at", "_law_count"] (spP K G 3 (.w (.l (.all (.l (.all .d))))) m__law_rows) := by
  have sc := sc__law_rows
  exact fn_ok (μe := []) F sc rfl rfl fun cdv A outer s H E hr => (jss_cons (js_asg (i := 3) sc.nd (je_nilW (s := (.l (.all .d))) (je_lstO ja_nil)))
  (jss_cons (js_for po_of (ji_rng1 T.z_range (ja_cons (je_var 2) ja_nil)) (jg_name (i := 4) sc.nd)
  (jss_weak (μ' := [.d, .d, .d, .w (.l (.all (.l (.all .d)))), .x, .x]) (jss_one (js_drop (je_wAppend (i := 3) (je_lcO (own := [("_law_j", 5)]) (vs := [5]) sc.nd (ji_rng1 T.z_range (ja_cons (je_var 2) ja_nil)) (by dsimp only [cxOf, Cx.blk, compEnvC, PyProof.Rows.envOfC]; (try simp only [relabel_eq]); decide +kernel) (fun _ _ _ _ _ => (jgc_name (i := 5) sc.nd)) (fun _ _ _ _ _ => jts_nil) (fun _ _ _ _ _ => (je_call d__law_small (hr.mono (by decide)) takes0 (ja_cons (je_call d__law_cell (hr.mono (by decide)) takes0 (ja_cons (je_var 0) (ja_cons (je_add (je_add (je_var 1) (je_mul (je_var 2) (je_var 4))) (je_var 5)) ja_nil)) (alen_cons (alen_cons alen_nil))) ja_nil) (alen_cons alen_nil)))))))))
  (jss_one (js_retW (i := 3)))))
theorem sc__law_sum : FnScope ["_law_parts", "_law_n", "_law_d", "_law_part"] ["_law_parts"] (defScope (top 21)) := ⟨rfl, rfl, rfl, by decide +kernel, rfl, by decide +kernel, by decide +kernel⟩
theorem okm__law_sum {f : Addr} {fd : FuncData} (F : Fun K "_law_sum" "_law_sum" (top 21) f fd) (T : Txt K mg G) (d__law_low : DefO P w K mg base G "_law_low" 2 .d RV.m__law_low 1 []) : FnOk P w K mg base (L2.CX P w) 2 f fd ["_law_parts"] (spP K G 1 .d RV.m__law_sum) := by
  have sc := sc__law_sum
  exact fn_ok (μe := []) F sc rfl rfl fun cdv A outer s H E hr => (jss_cons (js_asg (i := 1) sc.nd je_int)
  (jss_cons (js_asg (i := 2) sc.nd je_int)
  (jss_cons (js_for po_of (ji_list (je_var 0)) (jg_name (i := 3) sc.nd)
  (jss_weak (μ' := [.d, .d, .d, .x]) (jss_cons (js_asg (i := 1) sc.nd (je_add (je_mul (je_var 1) (je_ix (je_var 3) je_int)) (je_mul (je_ix (je_var 3) je_int) (je_var 2))))
  (jss_one (js_asg (i := 2) sc.nd (je_mul (je_var 2) (je_ix (je_var 3) je_int)))))))
  (jss_one (js_ret (je_call d__law_low (hr.mono (by decide)) tk_of (ja_cons (je_var 1) (ja_cons (je_var 2) ja_nil)) (alen_cons (alen_cons alen_nil))))))))
theorem sc_is_integer : FnScope ["value"] ["value"] (defScope (top 5)) := ⟨rfl, rfl, rfl, by decide +kernel, rfl, by decide +kernel, by decide +kernel⟩
theorem okm_is_integer {f : Addr} {fd : FuncData} (F : Fun K "is_integer" "is_integer" (top 5) f fd) (T : Txt K mg G) : FnOk P w K mg base (L2.CX P w) 1 f fd ["value"] (spP K G 1 .d RV.m_is_integer) := by
  have sc := sc_is_integer
  exact fn_ok (μe := []) F sc rfl rfl fun cdv A outer s H E hr => (jss_one (js_ret (je_and (je_isi (je_var 0) T.z_isinstance T.z_int) (je_one (je_not (je_isi (je_var 0) T.z_isinstance T.z_bool))))))
theorem sc_common_divisor : FnScope ["a", "b"] ["a", "b"] (defScope (top 6)) := ⟨rfl, rfl, rfl, by decide +kernel, rfl, by decide +kernel, by decide +kernel⟩
theorem okm_common_divisor {f : Addr} {fd : FuncData} (F : Fun K "common_divisor" "common_divisor" (top 6) f fd) (T : Txt K mg G) : FnOk P w K mg base (L2.CX P w) 1 f fd ["a", "b"] (spP K G 2 .d RV.m_common_divisor) := by
  have sc := sc_common_divisor
  exact fn_ok (μe := []) F sc rfl rfl fun cdv A outer s H E hr => (jss_cons (js_while (fun ρ => (ρ.getD 1 .non).nat + 1) po_of (jt_cmp (opr_ne hr.units) opb_ne (je_var 1) je_int)
  (jss_one (js_par (i := 0) (j := 1) sc.nd (je_var 1) (je_mod (je_var 0) (je_var 1)))))
  (jss_one (js_ret (je_cb call_abs cd_abs T.z_abs (ja_cons (je_var 0) ja_nil)))))
theorem sc_ratio : FnScope ["n", "d", "divisor"] ["n", "d"] (defScope (top 7)) := ⟨rfl, rfl, rfl, by decide +kernel, rfl, by decide +kernel, by decide +kernel⟩
theorem okm_ratio {f : Addr} {fd : FuncData} {dvs : List V} (F : FunD K "ratio" "ratio" (defArgs (top 7)) (defBody (top 7)) (defScope (top 7)) dvs [] f fd) (T : Txt K mg G) (d_is_integer : DefO P w K mg base G "is_integer" 1 .d RV.m_is_integer 1 []) (d_common_divisor : DefO P w K mg base G "common_divisor" 2 .d RV.m_common_divisor 1 []) : FnOk P w K mg base (L2.CX P w) 2 f fd ["n", "d"] (spP K G 2 .d RV.m_ratio) := by
  have sc := sc_ratio
  exact fnD_ok (μe := []) F sc rfl rfl fun cdv A outer s H E hr => (jss_cons (js_if (jw_pt (jw_or (jt_not (jt_tr (je_call d_is_integer (hr.mono (by decide)) tk_of (ja_cons (je_var 0) ja_nil) (alen_cons alen_nil)))) (jw_or (jt_not (jt_tr (je_call d_is_integer (hr.mono (by decide)) tk_of (ja_cons (je_var 1) ja_nil) (alen_cons alen_nil)))) (jw_or1 (jt_cmp opr_lt opb_lt (je_var 1) je_int)))))
  (jss_one (js_raise T.e_InvalidRatio tk_of (ja_cons je_str ja_nil) (alen_cons alen_nil)))
  jss_nil)
  (jss_cons (js_asg (i := 2) sc.nd (je_call d_common_divisor (hr.mono (by decide)) tk_of (ja_cons (je_var 0) (ja_cons (je_var 1) ja_nil)) (alen_cons (alen_cons alen_nil))))
  (jss_one (js_ret (je_tup (ja_cons (je_div (je_var 0) (je_var 2)) (ja_cons (je_div (je_var 1) (je_var 2)) ja_nil)))))))
theorem sc_over : FnScope ["a", "b", "n", "d"] ["a", "b"] (defScope (top 10)) := ⟨rfl, rfl, rfl, by decide +kernel, rfl, by decide +kernel, by decide +kernel⟩
theorem okm_over {f : Addr} {fd : FuncData} (F : Fun K "over" "over" (top 10) f fd) (T : Txt K mg G) (d_ratio : DefO P w K mg base G "ratio" 2 .d RV.m_ratio 2 []) : FnOk P w K mg base (L2.CX P w) 3 f fd ["a", "b"] (spP K G 2 .d RV.m_over) := by
  have sc := sc_over
  exact fn_ok (μe := []) F sc rfl rfl fun cdv A outer s H E hr => (jss_cons (js_if (jt_cmp (opr_eq hr.units) opb_eq (je_ix (je_var 1) je_int) je_int)
  (jss_one (js_raise T.e_InvalidRatio tk_of (ja_cons je_str ja_nil) (alen_cons alen_nil)))
  jss_nil)
  (jss_cons (js_asg (i := 2) sc.nd (je_mul (je_ix (je_var 0) je_int) (je_ix (je_var 1) je_int)))
  (jss_cons (js_asg (i := 3) sc.nd (je_mul (je_ix (je_var 0) je_int) (je_ix (je_var 1) je_int)))
  (jss_cons (js_if (jt_cmp opr_lt opb_lt (je_var 3) je_int)
  (jss_weak (μ' := [.x, .x, .d, .d]) (jss_cons (js_asg (i := 2) sc.nd (je_neg (je_var 2)))
  (jss_one (js_asg (i := 3) sc.nd (je_neg (je_var 3))))))
  (jss_weak (μ' := [.x, .x, .d, .d]) jss_nil))
  (jss_one (js_ret (je_call d_ratio (hr.mono (by decide)) tk_of (ja_cons (je_var 2) (ja_cons (je_var 3) ja_nil)) (alen_cons (alen_cons alen_nil)))))))))
theorem sc_sub : FnScope ["a", "b"] ["a", "b"] (defScope (top 8)) := ⟨rfl, rfl, rfl, by decide +kernel, rfl, by decide +kernel, by decide +kernel⟩
theorem okm_sub {f : Addr} {fd : FuncData} (F : Fun K "sub" "sub" (top 8) f fd) (T : Txt K mg G) (d_ratio : DefO P w K mg base G "ratio" 2 .d RV.m_ratio 2 []) : FnOk P w K mg base (L2.CX P w) 3 f fd ["a", "b"] (spP K G 2 .d RV.m_sub) := by
  have sc := sc_sub
  exact fn_ok (μe := []) F sc rfl rfl fun cdv A outer s H E hr => (jss_one (js_ret (je_call d_ratio (hr.mono (by decide)) tk_of (ja_cons (je_sub (je_mul (je_ix (je_var 0) je_int) (je_ix (je_var 1) je_int)) (je_mul (je_ix (je_var 1) je_int) (je_ix (je_var 0) je_int))) (ja_cons (je_mul (je_ix (je_var 0) je_int) (je_ix (je_var 1) je_int)) ja_nil)) (alen_cons (alen_cons alen_nil)))))
theorem sc_times : FnScope ["a", "b"] ["a", "b"] (defScope (top 9)) := ⟨rfl, rfl, rfl, by decide +kernel, rfl, by decide +kernel, by decide +kernel⟩
theorem okm_times {f : Addr} {fd : FuncData} (F : Fun K "times" "times" (top 9) f fd) (T : Txt K mg G) (d_ratio : DefO P w K mg base G "ratio" 2 .d RV.m_ratio 2 []) : FnOk P w K mg base (L2.CX P w) 3 f fd ["a", "b"] (spP K G 2 .d RV.m_times) := by
  have sc := sc_times
  exact fn_ok (μe := []) F sc rfl rfl fun cdv A outer s H E hr => (jss_one (js_ret (je_call d_ratio (hr.mono (by decide)) tk_of (ja_cons (je_mul (je_ix (je_var 0) je_int) (je_ix (je_var 1) je_int)) (ja_cons (je_mul (je_ix (je_var 0) je_int) (je_ix (je_var 1) je_int)) ja_nil)) (alen_cons (alen_cons alen_nil)))))
theorem sc_without_column : FnScope ["row", "own", "at", "part", "one", "other"] ["row", "own", "at"] (defScope (top 13)) := ⟨rfl, rfl, rfl, by decide +kernel, rfl, by decide +kernel, by decide +kernel⟩
theorem okm_without_column {f : Addr} {fd : FuncData} (F : Fun K "without_column" "without_column" (top 13) f fd) (T : Txt K mg G) (d_over : DefO P w K mg base G "over" 2 .d RV.m_over 3 []) (d_times : DefO P w K mg base G "times" 2 .d RV.m_times 3 []) (d_sub : DefO P w K mg base G "sub" 2 .d RV.m_sub 3 []) : FnOk P w K mg base (L2.CX P w) 4 f fd ["row", "own", "at"] (spP K G 3 .o RV.m_without_column) := by
  have sc := sc_without_column
  exact fn_ok (μe := []) F sc rfl rfl fun cdv A outer s H E hr => (jss_cons (js_asg (i := 3) sc.nd (je_call d_over (hr.mono (by decide)) tk_of (ja_cons (je_ix (je_var 0) (je_var 2)) (ja_cons (je_ix (je_var 1) (je_var 2)) ja_nil)) (alen_cons (alen_cons alen_nil))))
  (jss_one (js_ret (je_lcO (own := [("one", 4), ("other", 5)]) (vs := [4, 5]) sc.nd (ji_zip2 T.z_zip (ja_cons (je_var 0) (ja_cons (je_var 1) ja_nil))) (by dsimp only [cxOf, Cx.blk, compEnvC, PyProof.Rows.envOfC]; (try simp only [relabel_eq]); decide +kernel) (fun _ _ _ _ _ => (jgc_tup (jgcs_name (i := 4) sc.nd (jgcs_name (i := 5) sc.nd jgcs_nil)))) (fun _ _ _ _ _ => jts_nil) (fun _ _ _ _ _ => (je_call d_sub (hr.mono (by decide)) takes0 (ja_cons (je_var 4) (ja_cons (je_call d_times (hr.mono (by decide)) takes0 (ja_cons (je_var 3) (ja_cons (je_var 5) ja_nil)) (alen_cons (alen_cons alen_nil))) ja_nil)) (alen_cons (alen_cons alen_nil))))))))
theorem sc_solve : FnScope ["rows", "right", "table", "at", "place", "other", "row", "value"] ["rows", "right"] (defScope (top 14)) := ⟨rfl, rfl, rfl, by decide +kernel, rfl, by decide +kernel, by decide +kernel⟩
theorem okm_solve {f : Addr} {fd : FuncData} (F : Fun K "solve" "solve" (top 14) f fd) (T : Txt K mg G) (d_without_column : DefO P w K mg base G "without_column" 3 .o RV.m_without_column 4 []) (d_over : DefO P w K mg base G "over" 2 .d RV.m_over 3 []) : FnOk P w K mg base (L2.CX P w) 5 f fd ["rows", "right"] (spP K G 2 .o RV.m_solve) := by
  have sc := sc_solve
  exact fn_ok (μe := []) F sc rfl rfl fun cdv A outer s H E hr => (jss_cons (js_asgLcO (i := 2) (own := [("row", 6), ("value", 7)]) (vs := [6, 7]) sc.nd (ji_zip2 T.z_zip (ja_cons (je_var 0) (ja_cons (je_var 1) ja_nil))) (by dsimp only [cxOf, Cx.blk, compEnvC, PyProof.Rows.envOfC]; (try simp only [relabel_eq]); decide +kernel) (fun _ _ _ _ _ => (jgc_tup (jgcs_name (i := 6) sc.nd (jgcs_name (i := 7) sc.nd jgcs_nil)))) (fun _ _ _ _ _ => jts_nil) (fun _ _ _ _ _ => (je_add (je_frz (je_ct call_list_of (cd_list (.inr rfl)) T.z_list (ja_cons (je_var 6) ja_nil))) (je_lst (ja_cons (je_var 7) ja_nil)))) (sw_true rfl rfl rfl (by dsimp only [cxOf, Cx.blk, compEnvC, PyProof.Rows.envOfC]; (try simp only [relabel_eq]); decide +kernel)))
  (jss_cons (js_weak0 (μ1 := [.x, .x, .o, .x, .x, .x, .x, .x]) (js_for po_of (ji_rng1 T.z_range (ja_cons (je_lenO (i := 2) T.z_len) ja_nil)) (jg_name (i := 3) sc.nd)
  (jss_weak (μ' := [.x, .x, .o, .x, .x, .x, .x, .x]) (jss_cons (js_asg (i := 4) sc.nd (je_var 3))
  (jss_cons (js_while (fun ρ => (ρ.getD 2 .non).size + 1) po_of (jw_pt (jw_and (jt_cmp opr_lt opb_lt (je_var 4) (je_lenO (i := 2) T.z_len)) (jw_and1 (jt_cmp (opr_eq hr.units) opb_eq (je_ix (je_ixO (i := 2) (je_var 4)) (je_var 3)) (je_globD T.c_ZERO)))))
  (jss_one (js_asg (i := 4) sc.nd (je_add (je_var 4) je_int))))
  (jss_cons (js_if (jt_cmp (opr_eq hr.units) opb_eq (je_var 4) (je_lenO (i := 2) T.z_len))
  (jss_one (js_raise T.e_Singular tk_of (ja_cons je_str ja_nil) (alen_cons alen_nil)))
  jss_nil)
  (jss_cons (js_asgT (je_tup (ja_cons (je_ixO (i := 2) (je_var 4)) (ja_cons (je_ixO (i := 2) (je_var 3)) ja_nil))) (jg_tup (jgs_cons (jg_setO (i := 2) (je_var 3)) (jgs_cons (jg_setO (i := 2) (je_var 4)) jgs_nil))))
  (jss_one (js_weak0 (μ1 := [.x, .x, .o, .d, .x, .x, .x, .x]) (js_for po_of (ji_rng1 T.z_range (ja_cons (je_lenO (i := 2) T.z_len) ja_nil)) (jg_name (i := 5) sc.nd)
  (jss_one (js_if (jt_cmp (opr_ne hr.units) opb_ne (je_var 5) (je_var 3))
  (jss_weak (μ' := [.x, .x, .o, .d, .x, .x, .x, .x]) (jss_one (js_asgT (je_frz (je_call d_without_column (hr.mono (by decide)) tk_of (ja_cons (je_ixO (i := 2) (je_var 5)) (ja_cons (je_ixO (i := 2) (je_var 3)) (ja_cons (je_var 3) ja_nil))) (alen_cons (alen_cons (alen_cons alen_nil))))) (jg_setO (i := 2) (je_var 5)))))
  (jss_weak (μ' := [.x, .x, .o, .d, .x, .x, .x, .x]) jss_nil)))))))))))))
  (jss_frz 2 (jss_one (js_ret (je_lcO (own := [("at", 3), ("row", 6)]) (vs := [3, 6]) sc.nd (ji_enum T.z_enumerate (ja_cons (je_var 2) ja_nil)) (by dsimp only [cxOf, Cx.blk, compEnvC, PyProof.Rows.envOfC]; (try simp only [relabel_eq]); decide +kernel) (fun _ _ _ _ _ => (jgc_tup (jgcs_name (i := 3) sc.nd (jgcs_name (i := 6) sc.nd jgcs_nil)))) (fun _ _ _ _ _ => jts_nil) (fun _ _ _ _ _ => (je_call d_over (hr.mono (by decide)) takes0 (ja_cons (je_ix (je_var 6) (je_neg je_int)) (ja_cons (je_ix (je_var 6) (je_var 3)) ja_nil)) (alen_cons (alen_cons alen_nil))))))))))
theorem sc__law_times : FnScope ["_law_a", "_law_b"] ["_law_a", "_law_b"] (defScope (top 22)) := ⟨rfl, rfl, rfl, by decide +kernel, rfl, by decide +kernel, by decide +kernel⟩
theorem okm__law_times {f : Addr} {fd : FuncData} (F : Fun K "_law_times" "_law_times" (top 22) f fd) (T : Txt K mg G) (d__law_low : DefO P w K mg base G "_law_low" 2 .d RV.m__law_low 1 []) : FnOk P w K mg base (L2.CX P w) 2 f fd ["_law_a", "_law_b"] (spP K G 2 .d RV.m__law_times) := by
  have sc := sc__law_times
  exact fn_ok (μe := []) F sc rfl rfl fun cdv A outer s H E hr => (jss_one (js_ret (je_call d__law_low (hr.mono (by decide)) tk_of (ja_cons (je_mul (je_ix (je_var 0) je_int) (je_ix (je_var 1) je_int)) (ja_cons (je_mul (je_ix (je_var 0) je_int) (je_ix (je_var 1) je_int)) ja_nil)) (alen_cons (alen_cons alen_nil)))))
theorem sc__law_product : FnScope ["_law_rows_here", "_law_values", "_law_row", "_law_k"] ["_law_rows_here", "_law_values"] (defScope (top 23)) := ⟨rfl, rfl, rfl, by decide +kernel, rfl, by decide +kernel, by decide +kernel⟩
theorem okm__law_product {f : Addr} {fd : FuncData} (F : Fun K "_law_product" "_law_product" (top 23) f fd) (T : Txt K mg G) (d__law_times : DefO P w K mg base G "_law_times" 2 .d RV.m__law_times 2 []) (d__law_sum : DefO P w K mg base G "_law_sum" 1 .d RV.m__law_sum 2 []) : FnOk P w K mg base (L2.CX P w) 3 f fd ["_law_rows_here", "_law_values"] (spP K G 2 .o RV.m__law_product) := by
  have sc := sc__law_product
  exact fn_ok (μe := []) F sc rfl rfl fun cdv A outer s H E hr => (jss_one (js_ret (je_lcO (own := [("_law_row", 2)]) (vs := [2]) sc.nd (ji_list (je_var 0)) (by dsimp only [cxOf, Cx.blk, compEnvC, PyProof.Rows.envOfC]; (try simp only [relabel_eq]); decide +kernel) (fun _ _ _ _ _ => (jgc_name (i := 2) sc.nd)) (fun _ _ _ _ _ => jts_nil) (fun _ _ _ _ _ => (je_call d__law_sum (hr.mono (by decide)) takes0 (ja_cons (je_frz (je_lcO (own := [("_law_k", 3)]) (vs := [3]) sc.nd (ji_rng1 T.z_range (ja_cons (je_cb call_len cd_len T.z_len (ja_cons (je_var 1) ja_nil)) ja_nil)) (by dsimp only [cxOf, Cx.blk, compEnvC, PyProof.Rows.envOfC]; (try simp only [relabel_eq]); decide +kernel) (fun _ _ _ _ _ => (jgc_name (i := 3) sc.nd)) (fun _ _ _ _ _ => jts_nil) (fun _ _ _ _ _ => (je_call d__law_times (hr.mono (by decide)) takes0 (ja_cons (je_ix (je_var 2) (je_var 3)) (ja_cons (je_ix (je_var 1) (je_var 3)) ja_nil)) (alen_cons (alen_cons alen_nil)))))) ja_nil) (alen_cons alen_nil))))))
theorem sc__law_raises : FnScope ["_law_rows_here", "_law_right", "error"] ["_law_rows_here", "_law_right"] (defScope (top 26)) := ⟨rfl, rfl, rfl, by decide +kernel, rfl, by decide +kernel, by decide +kernel⟩
theorem okm__law_raises {f : Addr} {fd : FuncData} (F : Fun K "_law_raises" "_law_raises" (top 26) f fd) (T : Txt K mg G) (d_solve : DefO P w K mg base G "solve" 2 .o RV.m_solve 5 []) : FnOk P w K mg base (L2.CX P w) 6 f fd ["_law_rows_here", "_law_right"] (spP K G 2 .d m__law_raises) := by
  have sc := sc__law_raises
  exact fn_ok (μe := []) F sc rfl rfl fun cdv A outer s H E hr => (jss_cons (js_tryAs (i := 2) [.x, .x, .x] sc.nd T.m_Singular tk_of (fun W pn xe tk po => (jss_weak (μ' := [.x, .x, .x]) (jss_one (js_drop (je_frz (je_call d_solve (hr.mono (by decide)) tk (ja_cons (je_var 0) (ja_cons (je_var 1) ja_nil)) (alen_cons (alen_cons alen_nil))))))))
  (fun e a oe d pn ht hz hn hf => (jss_one (js_ret (je_isE (i := 2) List.mem_cons_self T.i_PriceError T.xc ht hz hf T.z_isinstance rfl)))))
  (jss_one (js_ret je_bl)))
theorem sc__law_great : FnScope ["_law_script", "_law_count", "_law_rows_here", "_law_k", "_law_turn", "_law_values", "_law_at", "_law_one", "_law_other", "_law_part", "_law_row"] ["_law_script"] (defScope (top 27)) := ⟨rfl, rfl, rfl, by decide +kernel, rfl, by decide +kernel, by decide +kernel⟩
theorem okm__law_great {f : Addr} {fd : FuncData} (F : Fun K "_law_great" "_law_great" (top 27) f fd) (T : Txt K mg G) (d__law_cell : DefO P w K mg base G "_law_cell" 2 .d RV.m__law_cell 1 []) (d__law_rows : DefO P w K mg base G "_law_rows" 3 (.w (.l (.all (.l (.all .d))))) m__law_rows 3 []) (d__law_sum : DefO P w K mg base G "_law_sum" 1 .d RV.m__law_sum 2 []) (d__law_small : DefO P w K mg base G "_law_small" 1 .d RV.m__law_small 2 []) (d__law_product : DefO P w K mg base G "_law_product" 2 .o RV.m__law_product 3 []) (d_solve : DefO P w K mg base G "solve" 2 .o RV.m_solve 5 []) (d__law_times : DefO P w K mg base G "_law_times" 2 .d RV.m__law_times 2 []) (d__law_raises : DefO P w K mg base G "_law_raises" 2 .d m__law_raises 6 []) : FnOk P w K mg base (L2.CX P w) 7 f fd ["_law_script"] (spP K G 1 .d m__law_great) := by
  have sc := sc__law_great
  exact fn_ok (μe := []) F sc rfl rfl fun cdv A outer s H E hr => (jss_cons (js_asg (i := 1) sc.nd (je_add je_int (je_mod (je_call d__law_cell (hr.mono (by decide)) tk_of (ja_cons (je_var 0) (ja_cons je_int ja_nil)) (alen_cons (alen_cons alen_nil))) je_int)))
  (jss_cons (js_asg (i := 2) sc.nd (je_call d__law_rows (hr.mono (by decide)) tk_of (ja_cons (je_var 0) (ja_cons je_int (ja_cons (je_var 1) ja_nil))) (alen_cons (alen_cons (alen_cons alen_nil)))))
  (jss_cons (js_for po_of (ji_rng1 T.z_range (ja_cons (je_var 1) ja_nil)) (jg_name (i := 3) sc.nd)
  (jss_weak (μ' := [.d, .d, .w (.l (.all (.l (.all .d)))), .x, .x, .x, .x, .x, .x, .x, .x]) (jss_one (js_pSet (je_see (r := .d) (μh := [.d, .d, .d, .d, .x, .x, .x, .x, .x, .x, .x]) (je_call d__law_sum (hr.mono (by decide)) tk_of (ja_cons (je_add (je_frz (je_lcO (own := [("_law_part", 9)]) (vs := [9]) sc.nd (ji_list (je_ix (je_var 2) (je_var 3))) (by dsimp only [cxOf, Cx.blk, compEnvC, PyProof.Rows.envOfC]; (try simp only [relabel_eq]); decide +kernel) (fun _ _ _ _ _ => (jgc_name (i := 9) sc.nd)) (fun _ _ _ _ _ => jts_nil) (fun _ _ _ _ _ => (je_tup (ja_cons (je_cb call_abs cd_abs T.z_abs (ja_cons (je_ix (je_var 9) je_int) ja_nil)) (ja_cons (je_ix (je_var 9) je_int) ja_nil)))))) (je_lst (ja_cons (je_tup (ja_cons je_int (ja_cons (je_add je_int (je_mod (je_call d__law_cell (hr.mono (by decide)) tk_of (ja_cons (je_var 0) (ja_cons (je_add je_int (je_var 3)) ja_nil)) (alen_cons (alen_cons alen_nil))) je_int)) ja_nil))) ja_nil))) ja_nil) (alen_cons alen_nil))) (pl_ixV (i := 2) (k := 3)) (je_var 3)))))
  (jss_cons (js_asg (i := 4) sc.nd (je_mod (je_call d__law_cell (hr.mono (by decide)) tk_of (ja_cons (je_var 0) (ja_cons je_int ja_nil)) (alen_cons (alen_cons alen_nil))) (je_var 1)))
  (jss_frz 2 (jss_cons (js_asg (i := 2) sc.nd (je_addO (je_slice (je_var 2) (jo_some (je_var 4)) jo_none) (je_slice (je_var 2) jo_none (jo_some (je_var 4)))))
  (jss_cons (js_frzA (i := 5) (js_asgLcO (i := 5) (own := [("_law_k", 3)]) (vs := [3]) sc.nd (ji_rng1 T.z_range (ja_cons (je_var 1) ja_nil)) (by dsimp only [cxOf, Cx.blk, compEnvC, PyProof.Rows.envOfC]; (try simp only [relabel_eq]); decide +kernel) (fun _ _ _ _ _ => (jgc_name (i := 3) sc.nd)) (fun _ _ _ _ _ => jts_nil) (fun _ _ _ _ _ => (je_call d__law_small (hr.mono (by decide)) takes0 (ja_cons (je_call d__law_cell (hr.mono (by decide)) takes0 (ja_cons (je_var 0) (ja_cons (je_add je_int (je_var 3)) ja_nil)) (alen_cons (alen_cons alen_nil))) ja_nil) (alen_cons alen_nil))) (sw_true rfl rfl rfl (by dsimp only [cxOf, Cx.blk, compEnvC, PyProof.Rows.envOfC]; (try simp only [relabel_eq]); decide +kernel))))
  (jss_cons (js_if (jt_seeN (μh := [.d, .d, .d, .x, .d, .d, .x, .x, .x, .x, .x]) (jt_cmp (opr_ne hr.units) opb_ne (je_frz (je_call d_solve (hr.mono (by decide)) tk_of (ja_cons (je_frz (je_lcO (own := [("_law_row", 10)]) (vs := [10]) sc.nd (ji_list (je_var 2)) (by dsimp only [cxOf, Cx.blk, compEnvC, PyProof.Rows.envOfC]; (try simp only [relabel_eq]); decide +kernel) (fun _ _ _ _ _ => (jgc_name (i := 10) sc.nd)) (fun _ _ _ _ _ => jts_nil) (fun _ _ _ _ _ => (je_frz (je_ct call_list_of (cd_list (.inr rfl)) T.z_list (ja_cons (je_var 10) ja_nil)))))) (ja_cons (je_frz (je_call d__law_product (hr.mono (by decide)) tk_of (ja_cons (je_var 2) (ja_cons (je_var 5) ja_nil)) (alen_cons (alen_cons alen_nil)))) ja_nil)) (alen_cons (alen_cons alen_nil)))) (je_var 5)))
  (jss_one (js_ret je_bl))
  (jss_weak (μ' := [.d, .d, .o, .x, .x, .d, .x, .x, .x, .x, .x]) jss_nil))
  (jss_cons (js_asg (i := 6) sc.nd (je_mod (je_call d__law_cell (hr.mono (by decide)) tk_of (ja_cons (je_var 0) (ja_cons je_int ja_nil)) (alen_cons (alen_cons alen_nil))) (je_var 1)))
  (jss_cons (js_asg (i := 7) sc.nd (je_ixO (i := 2) (je_mod (je_ct call_intOf cd_int T.z_int (ja_cons (je_add (je_var 6) je_int) ja_nil)) (je_var 1))))
  (jss_cons (js_asg (i := 8) sc.nd (je_ixO (i := 2) (je_mod (je_ct call_intOf cd_int T.z_int (ja_cons (je_add (je_var 6) je_int) ja_nil)) (je_var 1))))
  (jss_cons (js_asg (i := 9) sc.nd (je_call d__law_small (hr.mono (by decide)) tk_of (ja_cons (je_div (je_call d__law_cell (hr.mono (by decide)) tk_of (ja_cons (je_var 0) (ja_cons je_int ja_nil)) (alen_cons (alen_cons alen_nil))) je_int) ja_nil) (alen_cons alen_nil)))
  (jss_cons (js_asgT (je_frz (je_lcO (own := [("_law_k", 3)]) (vs := [3]) sc.nd (ji_rng1 T.z_range (ja_cons (je_var 1) ja_nil)) (by dsimp only [cxOf, Cx.blk, compEnvC, PyProof.Rows.envOfC]; (try simp only [relabel_eq]); decide +kernel) (fun _ _ _ _ _ => (jgc_name (i := 3) sc.nd)) (fun _ _ _ _ _ => jts_nil) (fun _ _ _ _ _ => (je_call d__law_sum (hr.mono (by decide)) takes0 (ja_cons (je_lst (ja_cons (je_ix (je_var 7) (je_var 3)) (ja_cons (je_call d__law_times (hr.mono (by decide)) takes0 (ja_cons (je_var 9) (ja_cons (je_ix (je_var 8) (je_var 3)) ja_nil)) (alen_cons (alen_cons alen_nil))) ja_nil))) ja_nil) (alen_cons alen_nil))))) (jg_setO (i := 2) (je_var 6)))
  (jss_frz 2 (jss_one (js_ret (je_and (je_call d__law_raises (hr.mono (by decide)) tk_of (ja_cons (je_var 2) (ja_cons (je_var 5) ja_nil)) (alen_cons (alen_cons alen_nil))) (je_one (je_call d__law_raises (hr.mono (by decide)) tk_of (ja_cons (je_var 2) (ja_cons (je_frz (je_call d__law_product (hr.mono (by decide)) tk_of (ja_cons (je_var 2) (ja_cons (je_var 5) ja_nil)) (alen_cons (alen_cons alen_nil)))) ja_nil)) (alen_cons (alen_cons alen_nil)))))))))))))))))))))
theorem sc__law_is_ratio : FnScope ["_law_actual", "_law_part"] ["_law_actual"] (defScope (top 18)) := ⟨rfl, rfl, rfl, by decide +kernel, rfl, by decide +kernel, by decide +kernel⟩
theorem okm__law_is_ratio {f : Addr} {fd : FuncData} (F : Fun K "_law_is_ratio" "_law_is_ratio" (top 18) f fd) (T : Txt K mg G) (d__law_low : DefO P w K mg base G "_law_low" 2 .d RV.m__law_low 1 []) : FnOk P w K mg base (L2.CX P w) 2 f fd ["_law_actual"] (spP K G 1 .d RV.m__law_is_ratio) := by
  have sc := sc__law_is_ratio
  exact fn_ok (μe := []) F sc rfl rfl fun cdv A outer s H E hr => (jss_cons (js_if (jw_pt (jw_or (jt_not (jt_tr (je_isi (je_var 0) T.z_isinstance T.z_tuple))) (jw_or1 (jt_cmp (opr_ne hr.units) opb_ne (je_cb call_len cd_len T.z_len (ja_cons (je_var 0) ja_nil)) je_int))))
  (jss_one (js_ret je_bl))
  jss_nil)
  (jss_cons (js_for po_of (ji_tup (je_var 0)) (jg_name (i := 1) sc.nd)
  (jss_one (js_if (jw_pt (jw_or (jt_not (jt_tr (je_isi (je_var 1) T.z_isinstance T.z_int))) (jw_or1 (jt_tr (je_isi (je_var 1) T.z_isinstance T.z_bool)))))
  (jss_one (js_ret je_bl))
  (jss_weak (μ' := [.d, .x]) jss_nil))))
  (jss_one (js_ret (je_and (je_cmp opr_ge opb_ge (je_ix (je_var 0) je_int) je_int) (je_one (je_cmp (opr_eq hr.units) opb_eq (je_call d__law_low (hr.mono (by decide)) tk_of (ja_cons (je_ix (je_var 0) je_int) (ja_cons (je_ix (je_var 0) je_int) ja_nil)) (alen_cons (alen_cons alen_nil))) (je_var 0))))))))
theorem sc__law_spoilt : FnScope ["_law_rows_here", "_law_cell_here", "_law_count", "_law_kind", "_law_at", "_law_other", "_law_k", "_law_part", "_law_row"] ["_law_rows_here", "_law_cell_here"] (defScope (top 25)) := ⟨rfl, rfl, rfl, by decide +kernel, rfl, by decide +kernel, by decide +kernel⟩
theorem okmC__law_spoilt {f : Addr} {fd : FuncData} (F : Fun K "_law_spoilt" "_law_spoilt" (top 25) f fd) (T : Txt K mg G) (d__law_times : DefO P w K mg base G "_law_times" 2 .d RV.m__law_times 2 []) (d__law_sum : DefO P w K mg base G "_law_sum" 1 .d RV.m__law_sum 2 []) : FnOk P w K mg base (L2.CX P w) 3 f fd ["_law_rows_here", "_law_cell_here"] (spB K G 1 .d (.l (.all (.l (.all .d)))) .x .x mC__law_spoilt) := by
  have sc := sc__law_spoilt
  exact fn_okC (μe := []) (sh := (.l (.all (.l (.all .d))))) F sc rfl rfl (fun cdv A outer s H E hr => (jss_cons (js_asg (i := 2) sc.nd (je_see (r := .d) (μh := [.d, .d, .x, .x, .x, .x, .x, .x, .x]) (je_cb call_len cd_len T.z_len (ja_cons (je_var 0) ja_nil))))
  (jss_cons (js_asg (i := 3) sc.nd (je_mod (je_var 1) je_int))
  (jss_cons (js_asg (i := 4) sc.nd (je_mod (je_div (je_var 1) je_int) (je_var 2)))
  (jss_cons (js_asg (i := 5) sc.nd (je_mod (je_ct call_intOf cd_int T.z_int (ja_cons (je_add (je_var 4) je_int) ja_nil)) (je_var 2)))
  (jss_cons (js_if (jw_pt (jw_and (jt_cmp (opr_eq hr.units) opb_eq (je_var 3) je_int) (jw_and1 (jt_cmp opr_gt opb_gt (je_var 2) je_int))))
  (jss_weak (μ' := [.s 0 (.l (.all (.l (.all .d)))), .x, .d, .d, .d, .x, .x, .x, .x]) (jss_one (js_wSet (i := 0) (je_see (r := .o) (μh := [.d, .d, .d, .d, .d, .d, .x, .x, .x]) (je_lcO (own := [("_law_part", 7)]) (vs := [7]) sc.nd (ji_list (je_ix (je_var 0) (je_var 5))) (by dsimp only [cxOf, Cx.blk, compEnvC, PyProof.Rows.envOfC]; (try simp only [relabel_eq]); decide +kernel) (fun _ _ _ _ _ => (jgc_name (i := 7) sc.nd)) (fun _ _ _ _ _ => jts_nil) (fun _ _ _ _ _ => (je_call d__law_times (hr.mono (by decide)) takes0 (ja_cons (je_var 7) (ja_cons (je_tup (ja_cons je_int (ja_cons je_int ja_nil))) ja_nil)) (alen_cons (alen_cons alen_nil)))))) (je_var 4))))
  (jss_weak (μ' := [.s 0 (.l (.all (.l (.all .d)))), .x, .d, .d, .d, .x, .x, .x, .x]) jss_nil))
  (jss_split (jt_cmp (opr_eq hr.units) opb_eq (je_var 3) je_int)
  (jss_frz 0 (jss_one (js_asg (i := 0) sc.nd (je_lcO (own := [("_law_row", 8)]) (vs := [8]) sc.nd (ji_list (je_var 0)) (by dsimp only [cxOf, Cx.blk, compEnvC, PyProof.Rows.envOfC]; (try simp only [relabel_eq]); decide +kernel) (fun _ _ _ _ _ => (jgc_name (i := 8) sc.nd)) (fun _ _ _ _ _ => jts_nil) (fun _ _ _ _ _ => (je_add (je_add (je_slice (je_var 8) jo_none (jo_some (je_var 4))) (je_lst (ja_cons (je_tup (ja_cons je_int (ja_cons je_int ja_nil))) ja_nil))) (je_slice (je_var 8) (jo_some (je_add (je_var 4) je_int)) jo_none)))))))
  jss_nil
  (jss_cons (js_if (jt_cmp (opr_eq hr.units) opb_eq (je_var 3) je_int)
  jss_bad
  (jss_weak (μ' := [.o, .x, .d, .d, .x, .x, .x, .x, .x]) jss_nil))
  (jss_cons (js_if (jw_pt (jw_and (jt_cmp (opr_eq hr.units) opb_eq (je_var 3) je_int) (jw_and1 (jt_cmp opr_gt opb_gt (je_var 2) je_int))))
  jss_bad
  (jss_weak (μ' := [.o, .x, .x, .x, .x, .x, .x, .x, .x]) jss_nil))
  (jss_frz 0 (jss_one (js_ret (je_var 0))))))
  (jss_cons (js_if (jt_cmp (opr_eq hr.units) opb_eq (je_var 3) je_int)
  (jss_one (js_weak0 (μ1 := [.s 0 (.l (.all (.l (.all .d)))), .x, .d, .d, .x, .x, .x, .x, .x]) (js_for po_of (ji_rng1 T.z_range (ja_cons (je_sub (je_var 2) je_int) ja_nil)) (jg_name (i := 6) sc.nd)
  (jss_weak (μ' := [.s 0 (.l (.all (.l (.all .d)))), .x, .d, .d, .x, .x, .x, .x, .x]) (jss_one (js_pSet (je_tup (ja_cons je_int (ja_cons je_int ja_nil))) (pl_ixV (i := 0) (k := 6)) je_int))))))
  (jss_weak (μ' := [.s 0 (.l (.all (.l (.all .d)))), .x, .d, .d, .x, .x, .x, .x, .x]) jss_nil))
  (jss_cons (js_if (jw_pt (jw_and (jt_cmp (opr_eq hr.units) opb_eq (je_var 3) je_int) (jw_and1 (jt_cmp opr_gt opb_gt (je_var 2) je_int))))
  (jss_weak (μ' := [.s 0 (.l (.all (.l (.all .d)))), .x, .x, .x, .x, .x, .x, .x, .x]) (jss_one (js_wSet (i := 0) (je_see (r := .o) (μh := [.d, .x, .d, .d, .x, .x, .x, .x, .x]) (je_lcO (own := [("_law_k", 6)]) (vs := [6]) sc.nd (ji_rng1 T.z_range (ja_cons (je_var 2) ja_nil)) (by dsimp only [cxOf, Cx.blk, compEnvC, PyProof.Rows.envOfC]; (try simp only [relabel_eq]); decide +kernel) (fun _ _ _ _ _ => (jgc_name (i := 6) sc.nd)) (fun _ _ _ _ _ => jts_nil) (fun _ _ _ _ _ => (je_call d__law_sum (hr.mono (by decide)) takes0 (ja_cons (je_lst (ja_cons (je_ix (je_ix (je_var 0) je_int) (je_var 6)) (ja_cons (je_ix (je_ix (je_var 0) je_int) (je_var 6)) ja_nil))) ja_nil) (alen_cons alen_nil))))) je_int)))
  (jss_weak (μ' := [.s 0 (.l (.all (.l (.all .d)))), .x, .x, .x, .x, .x, .x, .x, .x]) jss_nil))
  (jss_frz 0 (jss_one (js_ret (je_var 0)))))))))))))
theorem sc__law_determinant : FnScope ["_law_rows_here", "_law_parts", "_law_k", "_law_less_rows", "_law_part", "_law_row"] ["_law_rows_here"] (defScope (top 24)) := ⟨rfl, rfl, rfl, by decide +kernel, rfl, by decide +kernel, by decide +kernel⟩
theorem okm__law_determinant_R0 {f : Addr} {fd : FuncData} (F : Fun K "_law_determinant" "_law_determinant" (top 24) f fd) (T : Txt K mg G) : FnOk P w K mg base (L2.CX P w) 1 f fd ["_law_rows_here"] (spP K G 1 .d m__law_determinant_R0) := by
  have sc := sc__law_determinant
  exact fn_ok (μe := []) F sc rfl rfl fun cdv A outer s H E hr => jss_bad
theorem okm__law_determinant_R1 {f : Addr} {fd : FuncData} (F : Fun K "_law_determinant" "_law_determinant" (top 24) f fd) (T : Txt K mg G) (d__law_times : DefO P w K mg base G "_law_times" 2 .d RV.m__law_times 2 []) (d__law_sum : DefO P w K mg base G "_law_sum" 1 .d RV.m__law_sum 2 []) (dm__law_determinant_R0 : DefO P w K mg base G "_law_determinant" 1 .d m__law_determinant_R0 1 []) : FnOk P w K mg base (L2.CX P w) 3 f fd ["_law_rows_here"] (spP K G 1 .d m__law_determinant_R1) := by
  have sc := sc__law_determinant
  exact fn_ok (μe := []) F sc rfl rfl fun cdv A outer s H E hr => (jss_cons (js_if (jt_cmp (opr_eq hr.units) opb_eq (je_var 0) (je_lst ja_nil))
  (jss_one (js_ret (je_tup (ja_cons je_int (ja_cons je_int ja_nil)))))
  jss_nil)
  (jss_cons (js_asg (i := 1) sc.nd (je_lstO ja_nil))
  (jss_cons (js_for po_of (ji_rng1 T.z_range (ja_cons (je_cb call_len cd_len T.z_len (ja_cons (je_var 0) ja_nil)) ja_nil)) (jg_name (i := 2) sc.nd)
  (jss_weak (μ' := [.d, .o, .x, .x, .x, .x]) (jss_cons (js_frzA (i := 3) (js_asgLcO (i := 3) (own := [("_law_row", 5)]) (vs := [5]) sc.nd (ji_list (je_slice (je_var 0) (jo_some je_int) jo_none)) (by dsimp only [cxOf, Cx.blk, compEnvC, PyProof.Rows.envOfC]; (try simp only [relabel_eq]); decide +kernel) (fun _ _ _ _ _ => (jgc_name (i := 5) sc.nd)) (fun _ _ _ _ _ => jts_nil) (fun _ _ _ _ _ => (je_add (je_slice (je_var 5) jo_none (jo_some (je_var 2))) (je_slice (je_var 5) (jo_some (je_add (je_var 2) je_int)) jo_none))) (sw_true rfl rfl rfl (by dsimp only [cxOf, Cx.blk, compEnvC, PyProof.Rows.envOfC]; (try simp only [relabel_eq]); decide +kernel))))
  (jss_cons (js_asg (i := 4) sc.nd (je_call d__law_times (hr.mono (by decide)) tk_of (ja_cons (je_ix (je_ix (je_var 0) je_int) (je_var 2)) (ja_cons (je_call dm__law_determinant_R0 (hr.mono (by decide)) tk_of (ja_cons (je_var 3) ja_nil) (alen_cons alen_nil)) ja_nil)) (alen_cons (alen_cons alen_nil))))
  (jss_cons (js_if (jt_cmp (opr_eq hr.units) opb_eq (je_mod (je_var 2) je_int) je_int)
  (jss_weak (μ' := [.d, .o, .x, .x, .d, .x]) (jss_one (js_asg (i := 4) sc.nd (je_tup (ja_cons (je_sub je_int (je_ix (je_var 4) je_int)) (ja_cons (je_ix (je_var 4) je_int) ja_nil))))))
  (jss_weak (μ' := [.d, .o, .x, .x, .d, .x]) jss_nil))
  (jss_one (js_app (i := 1) (je_var 4))))))))
  (jss_frz 1 (jss_one (js_ret (je_call d__law_sum (hr.mono (by decide)) tk_of (ja_cons (je_var 1) ja_nil) (alen_cons alen_nil))))))))
theorem okm__law_determinant_R2 {f : Addr} {fd : FuncData} (F : Fun K "_law_determinant" "_law_determinant" (top 24) f fd) (T : Txt K mg G) (d__law_times : DefO P w K mg base G "_law_times" 2 .d RV.m__law_times 2 []) (d__law_sum : DefO P w K mg base G "_law_sum" 1 .d RV.m__law_sum 2 []) (dm__law_determinant_R1 : DefO P w K mg base G "_law_determinant" 1 .d m__law_determinant_R1 3 []) : FnOk P w K mg base (L2.CX P w) 4 f fd ["_law_rows_here"] (spP K G 1 .d m__law_determinant_R2) := by
  have sc := sc__law_determinant
  exact fn_ok (μe := []) F sc rfl rfl fun cdv A outer s H E hr => (jss_cons (js_if (jt_cmp (opr_eq hr.units) opb_eq (je_var 0) (je_lst ja_nil))
  (jss_one (js_ret (je_tup (ja_cons je_int (ja_cons je_int ja_nil)))))
  jss_nil)
  (jss_cons (js_asg (i := 1) sc.nd (je_lstO ja_nil))
  (jss_cons (js_for po_of (ji_rng1 T.z_range (ja_cons (je_cb call_len cd_len T.z_len (ja_cons (je_var 0) ja_nil)) ja_nil)) (jg_name (i := 2) sc.nd)
  (jss_weak (μ' := [.d, .o, .x, .x, .x, .x]) (jss_cons (js_frzA (i := 3) (js_asgLcO (i := 3) (own := [("_law_row", 5)]) (vs := [5]) sc.nd (ji_list (je_slice (je_var 0) (jo_some je_int) jo_none)) (by dsimp only [cxOf, Cx.blk, compEnvC, PyProof.Rows.envOfC]; (try simp only [relabel_eq]); decide +kernel) (fun _ _ _ _ _ => (jgc_name (i := 5) sc.nd)) (fun _ _ _ _ _ => jts_nil) (fun _ _ _ _ _ => (je_add (je_slice (je_var 5) jo_none (jo_some (je_var 2))) (je_slice (je_var 5) (jo_some (je_add (je_var 2) je_int)) jo_none))) (sw_true rfl rfl rfl (by dsimp only [cxOf, Cx.blk, compEnvC, PyProof.Rows.envOfC]; (try simp only [relabel_eq]); decide +kernel))))
  (jss_cons (js_asg (i := 4) sc.nd (je_call d__law_times (hr.mono (by decide)) tk_of (ja_cons (je_ix (je_ix (je_var 0) je_int) (je_var 2)) (ja_cons (je_call dm__law_determinant_R1 (hr.mono (by decide)) tk_of (ja_cons (je_var 3) ja_nil) (alen_cons alen_nil)) ja_nil)) (alen_cons (alen_cons alen_nil))))
  (jss_cons (js_if (jt_cmp (opr_eq hr.units) opb_eq (je_mod (je_var 2) je_int) je_int)
  (jss_weak (μ' := [.d, .o, .x, .x, .d, .x]) (jss_one (js_asg (i := 4) sc.nd (je_tup (ja_cons (je_sub je_int (je_ix (je_var 4) je_int)) (ja_cons (je_ix (je_var 4) je_int) ja_nil))))))
  (jss_weak (μ' := [.d, .o, .x, .x, .d, .x]) jss_nil))
  (jss_one (js_app (i := 1) (je_var 4))))))))
  (jss_frz 1 (jss_one (js_ret (je_call d__law_sum (hr.mono (by decide)) tk_of (ja_cons (je_var 1) ja_nil) (alen_cons alen_nil))))))))
theorem okm__law_determinant_R3 {f : Addr} {fd : FuncData} (F : Fun K "_law_determinant" "_law_determinant" (top 24) f fd) (T : Txt K mg G) (d__law_times : DefO P w K mg base G "_law_times" 2 .d RV.m__law_times 2 []) (d__law_sum : DefO P w K mg base G "_law_sum" 1 .d RV.m__law_sum 2 []) (dm__law_determinant_R2 : DefO P w K mg base G "_law_determinant" 1 .d m__law_determinant_R2 4 []) : FnOk P w K mg base (L2.CX P w) 5 f fd ["_law_rows_here"] (spP K G 1 .d m__law_determinant_R3) := by
  have sc := sc__law_determinant
  exact fn_ok (μe := []) F sc rfl rfl fun cdv A outer s H E hr => (jss_cons (js_if (jt_cmp (opr_eq hr.units) opb_eq (je_var 0) (je_lst ja_nil))
  (jss_one (js_ret (je_tup (ja_cons je_int (ja_cons je_int ja_nil)))))
  jss_nil)
  (jss_cons (js_asg (i := 1) sc.nd (je_lstO ja_nil))
  (jss_cons (js_for po_of (ji_rng1 T.z_range (ja_cons (je_cb call_len cd_len T.z_len (ja_cons (je_var 0) ja_nil)) ja_nil)) (jg_name (i := 2) sc.nd)
  (jss_weak (μ' := [.d, .o, .x, .x, .x, .x]) (jss_cons (js_frzA (i := 3) (js_asgLcO (i := 3) (own := [("_law_row", 5)]) (vs := [5]) sc.nd (ji_list (je_slice (je_var 0) (jo_some je_int) jo_none)) (by dsimp only [cxOf, Cx.blk, compEnvC, PyProof.Rows.envOfC]; (try simp only [relabel_eq]); decide +kernel) (fun _ _ _ _ _ => (jgc_name (i := 5) sc.nd)) (fun _ _ _ _ _ => jts_nil) (fun _ _ _ _ _ => (je_add (je_slice (je_var 5) jo_none (jo_some (je_var 2))) (je_slice (je_var 5) (jo_some (je_add (je_var 2) je_int)) jo_none))) (sw_true rfl rfl rfl (by dsimp only [cxOf, Cx.blk, compEnvC, PyProof.Rows.envOfC]; (try simp only [relabel_eq]); decide +kernel))))
  (jss_cons (js_asg (i := 4) sc.nd (je_call d__law_times (hr.mono (by decide)) tk_of (ja_cons (je_ix (je_ix (je_var 0) je_int) (je_var 2)) (ja_cons (je_call dm__law_determinant_R2 (hr.mono (by decide)) tk_of (ja_cons (je_var 3) ja_nil) (alen_cons alen_nil)) ja_nil)) (alen_cons (alen_cons alen_nil))))
  (jss_cons (js_if (jt_cmp (opr_eq hr.units) opb_eq (je_mod (je_var 2) je_int) je_int)
  (jss_weak (μ' := [.d, .o, .x, .x, .d, .x]) (jss_one (js_asg (i := 4) sc.nd (je_tup (ja_cons (je_sub je_int (je_ix (je_var 4) je_int)) (ja_cons (je_ix (je_var 4) je_int) ja_nil))))))
  (jss_weak (μ' := [.d, .o, .x, .x, .d, .x]) jss_nil))
  (jss_one (js_app (i := 1) (je_var 4))))))))
  (jss_frz 1 (jss_one (js_ret (je_call d__law_sum (hr.mono (by decide)) tk_of (ja_cons (je_var 1) ja_nil) (alen_cons alen_nil))))))))
theorem okm__law_determinant_R4 {f : Addr} {fd : FuncData} (F : Fun K "_law_determinant" "_law_determinant" (top 24) f fd) (T : Txt K mg G) (d__law_times : DefO P w K mg base G "_law_times" 2 .d RV.m__law_times 2 []) (d__law_sum : DefO P w K mg base G "_law_sum" 1 .d RV.m__law_sum 2 []) (dm__law_determinant_R3 : DefO P w K mg base G "_law_determinant" 1 .d m__law_determinant_R3 5 []) : FnOk P w K mg base (L2.CX P w) 6 f fd ["_law_rows_here"] (spP K G 1 .d m__law_determinant_R4) := by
  have sc := sc__law_determinant
  exact fn_ok (μe := []) F sc rfl rfl fun cdv A outer s H E hr => (jss_cons (js_if (jt_cmp (opr_eq hr.units) opb_eq (je_var 0) (je_lst ja_nil))
  (jss_one (js_ret (je_tup (ja_cons je_int (ja_cons je_int ja_nil)))))
  jss_nil)
  (jss_cons (js_asg (i := 1) sc.nd (je_lstO ja_nil))
  (jss_cons (js_for po_of (ji_rng1 T.z_range (ja_cons (je_cb call_len cd_len T.z_len (ja_cons (je_var 0) ja_nil)) ja_nil)) (jg_name (i := 2) sc.nd)
  (jss_weak (μ' := [.d, .o, .x, .x, .x, .x]) (jss_cons (js_frzA (i := 3) (js_asgLcO (i := 3) (own := [("_law_row", 5)]) (vs := [5]) sc.nd (ji_list (je_slice (je_var 0) (jo_some je_int) jo_none)) (by dsimp only [cxOf, Cx.blk, compEnvC, PyProof.Rows.envOfC]; (try simp only [relabel_eq]); decide +kernel) (fun _ _ _ _ _ => (jgc_name (i := 5) sc.nd)) (fun _ _ _ _ _ => jts_nil) (fun _ _ _ _ _ => (je_add (je_slice (je_var 5) jo_none (jo_some (je_var 2))) (je_slice (je_var 5) (jo_some (je_add (je_var 2) je_int)) jo_none))) (sw_true rfl rfl rfl (by dsimp only [cxOf, Cx.blk, compEnvC, PyProof.Rows.envOfC]; (try simp only [relabel_eq]); decide +kernel))))
  (jss_cons (js_asg (i := 4) sc.nd (je_call d__law_times (hr.mono (by decide)) tk_of (ja_cons (je_ix (je_ix (je_var 0) je_int) (je_var 2)) (ja_cons (je_call dm__law_determinant_R3 (hr.mono (by decide)) tk_of (ja_cons (je_var 3) ja_nil) (alen_cons alen_nil)) ja_nil)) (alen_cons (alen_cons alen_nil))))
  (jss_cons (js_if (jt_cmp (opr_eq hr.units) opb_eq (je_mod (je_var 2) je_int) je_int)
  (jss_weak (μ' := [.d, .o, .x, .x, .d, .x]) (jss_one (js_asg (i := 4) sc.nd (je_tup (ja_cons (je_sub je_int (je_ix (je_var 4) je_int)) (ja_cons (je_ix (je_var 4) je_int) ja_nil))))))
  (jss_weak (μ' := [.d, .o, .x, .x, .d, .x]) jss_nil))
  (jss_one (js_app (i := 1) (je_var 4))))))))
  (jss_frz 1 (jss_one (js_ret (je_call d__law_sum (hr.mono (by decide)) tk_of (ja_cons (je_var 1) ja_nil) (alen_cons alen_nil))))))))
theorem okm__law_determinant_R5 {f : Addr} {fd : FuncData} (F : Fun K "_law_determinant" "_law_determinant" (top 24) f fd) (T : Txt K mg G) (d__law_times : DefO P w K mg base G "_law_times" 2 .d RV.m__law_times 2 []) (d__law_sum : DefO P w K mg base G "_law_sum" 1 .d RV.m__law_sum 2 []) (dm__law_determinant_R4 : DefO P w K mg base G "_law_determinant" 1 .d m__law_determinant_R4 6 []) : FnOk P w K mg base (L2.CX P w) 7 f fd ["_law_rows_here"] (spP K G 1 .d m__law_determinant_R5) := by
  have sc := sc__law_determinant
  exact fn_ok (μe := []) F sc rfl rfl fun cdv A outer s H E hr => (jss_cons (js_if (jt_cmp (opr_eq hr.units) opb_eq (je_var 0) (je_lst ja_nil))
  (jss_one (js_ret (je_tup (ja_cons je_int (ja_cons je_int ja_nil)))))
  jss_nil)
  (jss_cons (js_asg (i := 1) sc.nd (je_lstO ja_nil))
  (jss_cons (js_for po_of (ji_rng1 T.z_range (ja_cons (je_cb call_len cd_len T.z_len (ja_cons (je_var 0) ja_nil)) ja_nil)) (jg_name (i := 2) sc.nd)
  (jss_weak (μ' := [.d, .o, .x, .x, .x, .x]) (jss_cons (js_frzA (i := 3) (js_asgLcO (i := 3) (own := [("_law_row", 5)]) (vs := [5]) sc.nd (ji_list (je_slice (je_var 0) (jo_some je_int) jo_none)) (by dsimp only [cxOf, Cx.blk, compEnvC, PyProof.Rows.envOfC]; (try simp only [relabel_eq]); decide +kernel) (fun _ _ _ _ _ => (jgc_name (i := 5) sc.nd)) (fun _ _ _ _ _ => jts_nil) (fun _ _ _ _ _ => (je_add (je_slice (je_var 5) jo_none (jo_some (je_var 2))) (je_slice (je_var 5) (jo_some (je_add (je_var 2) je_int)) jo_none))) (sw_true rfl rfl rfl (by dsimp only [cxOf, Cx.blk, compEnvC, PyProof.Rows.envOfC]; (try simp only [relabel_eq]); decide +kernel))))
  (jss_cons (js_asg (i := 4) sc.nd (je_call d__law_times (hr.mono (by decide)) tk_of (ja_cons (je_ix (je_ix (je_var 0) je_int) (je_var 2)) (ja_cons (je_call dm__law_determinant_R4 (hr.mono (by decide)) tk_of (ja_cons (je_var 3) ja_nil) (alen_cons alen_nil)) ja_nil)) (alen_cons (alen_cons alen_nil))))
  (jss_cons (js_if (jt_cmp (opr_eq hr.units) opb_eq (je_mod (je_var 2) je_int) je_int)
  (jss_weak (μ' := [.d, .o, .x, .x, .d, .x]) (jss_one (js_asg (i := 4) sc.nd (je_tup (ja_cons (je_sub je_int (je_ix (je_var 4) je_int)) (ja_cons (je_ix (je_var 4) je_int) ja_nil))))))
  (jss_weak (μ' := [.d, .o, .x, .x, .d, .x]) jss_nil))
  (jss_one (js_app (i := 1) (je_var 4))))))))
  (jss_frz 1 (jss_one (js_ret (je_call d__law_sum (hr.mono (by decide)) tk_of (ja_cons (je_var 1) ja_nil) (alen_cons alen_nil))))))))
theorem sc_law : FnScope ["_law_script", "_law_count", "_law_rows_here", "_law_values", "_law_right", "_law_kept", "_law_actual", "_law_value", "_law_k", "_law_row"] ["_law_script"] (defScope (top 28)) := ⟨rfl, rfl, rfl, by decide +kernel, rfl, by decide +kernel, by decide +kernel⟩
theorem okm_law {f : Addr} {fd : FuncData} (F : Fun K "law" "law" (top 28) f fd) (T : Txt K mg G) (d__law_great : DefO P w K mg base G "_law_great" 1 .d m__law_great 7 []) (d__law_cell : DefO P w K mg base G "_law_cell" 2 .d RV.m__law_cell 1 []) (d__law_rows : DefO P w K mg base G "_law_rows" 3 (.w (.l (.all (.l (.all .d))))) m__law_rows 3 []) (d__law_small : DefO P w K mg base G "_law_small" 1 .d RV.m__law_small 2 []) (d__law_product : DefO P w K mg base G "_law_product" 2 .o RV.m__law_product 3 []) (d__law_raises : DefO P w K mg base G "_law_raises" 2 .d m__law_raises 6 []) (d_solve : DefO P w K mg base G "solve" 2 .o RV.m_solve 5 []) (d__law_is_ratio : DefO P w K mg base G "_law_is_ratio" 1 .d RV.m__law_is_ratio 2 []) (dmC__law_spoilt : DefC P w K mg base G "_law_spoilt" 1 .d (.l (.all (.l (.all .d)))) mC__law_spoilt 3 []) (dm__law_determinant_R5 : DefO P w K mg base G "_law_determinant" 1 .d m__law_determinant_R5 7 []) : FnOk P w K mg base (L2.CX P w) 8 f fd ["_law_script"] (spP K G 1 .d m_law) := by
  have sc := sc_law
  exact fn_ok (μe := []) F sc rfl rfl fun cdv A outer s H E hr => (jss_cons (js_if (jt_not (jt_tr (je_call d__law_great (hr.mono (by decide)) tk_of (ja_cons (je_var 0) ja_nil) (alen_cons alen_nil))))
  (jss_one (js_ret je_bl))
  jss_nil)
  (jss_cons (js_asg (i := 1) sc.nd (je_add je_int (je_mod (je_call d__law_cell (hr.mono (by decide)) tk_of (ja_cons (je_var 0) (ja_cons je_int ja_nil)) (alen_cons (alen_cons alen_nil))) je_int)))
  (jss_cons (js_asg (i := 2) sc.nd (je_callC (sh := (.l (.all (.l (.all .d))))) dmC__law_spoilt (hr.mono (by decide)) tk_of (je_call d__law_rows (hr.mono (by decide)) tk_of (ja_cons (je_var 0) (ja_cons je_int (ja_cons (je_var 1) ja_nil))) (alen_cons (alen_cons (alen_cons alen_nil)))) (ja_cons (je_call d__law_cell (hr.mono (by decide)) tk_of (ja_cons (je_var 0) (ja_cons je_int ja_nil)) (alen_cons (alen_cons alen_nil))) ja_nil) (alen_cons alen_nil)))
  (jss_cons (js_frzA (i := 3) (js_asgLcO (i := 3) (own := [("_law_k", 8)]) (vs := [8]) sc.nd (ji_rng1 T.z_range (ja_cons (je_var 1) ja_nil)) (by dsimp only [cxOf, Cx.blk, compEnvC, PyProof.Rows.envOfC]; (try simp only [relabel_eq]); decide +kernel) (fun _ _ _ _ _ => (jgc_name (i := 8) sc.nd)) (fun _ _ _ _ _ => jts_nil) (fun _ _ _ _ _ => (je_call d__law_small (hr.mono (by decide)) takes0 (ja_cons (je_call d__law_cell (hr.mono (by decide)) takes0 (ja_cons (je_var 0) (ja_cons (je_add je_int (je_var 8)) ja_nil)) (alen_cons (alen_cons alen_nil))) ja_nil) (alen_cons alen_nil))) (sw_true rfl rfl rfl (by dsimp only [cxOf, Cx.blk, compEnvC, PyProof.Rows.envOfC]; (try simp only [relabel_eq]); decide +kernel))))
  (jss_cons (js_frzA (i := 4) (js_asgLcO (i := 4) (own := [("_law_k", 8)]) (vs := [8]) sc.nd (ji_rng1 T.z_range (ja_cons (je_var 1) ja_nil)) (by dsimp only [cxOf, Cx.blk, compEnvC, PyProof.Rows.envOfC]; (try simp only [relabel_eq]); decide +kernel) (fun _ _ _ _ _ => (jgc_name (i := 8) sc.nd)) (fun _ _ _ _ _ => jts_nil) (fun _ _ _ _ _ => (je_call d__law_small (hr.mono (by decide)) takes0 (ja_cons (je_call d__law_cell (hr.mono (by decide)) takes0 (ja_cons (je_var 0) (ja_cons (je_add je_int (je_var 8)) ja_nil)) (alen_cons (alen_cons alen_nil))) ja_nil) (alen_cons alen_nil))) (sw_true rfl rfl rfl (by dsimp only [cxOf, Cx.blk, compEnvC, PyProof.Rows.envOfC]; (try simp only [relabel_eq]); decide +kernel))))
  (jss_cons (js_if (jt_cmp (opr_ne hr.units) opb_ne (je_mod (je_call d__law_cell (hr.mono (by decide)) tk_of (ja_cons (je_var 0) (ja_cons je_int ja_nil)) (alen_cons (alen_cons alen_nil))) je_int) je_int)
  (jss_one (js_asg (i := 4) sc.nd (je_frz (je_call d__law_product (hr.mono (by decide)) tk_of (ja_cons (je_var 2) (ja_cons (je_var 3) ja_nil)) (alen_cons (alen_cons alen_nil))))))
  jss_nil)
  (jss_cons (js_asg (i := 5) sc.nd (je_tup (ja_cons (je_frz (je_lcO (own := [("_law_row", 9)]) (vs := [9]) sc.nd (ji_list (je_var 2)) (by dsimp only [cxOf, Cx.blk, compEnvC, PyProof.Rows.envOfC]; (try simp only [relabel_eq]); decide +kernel) (fun _ _ _ _ _ => (jgc_name (i := 9) sc.nd)) (fun _ _ _ _ _ => jts_nil) (fun _ _ _ _ _ => (je_frz (je_ct call_list_of (cd_list (.inr rfl)) T.z_list (ja_cons (je_var 9) ja_nil)))))) (ja_cons (je_frz (je_ct call_list_of (cd_list (.inr rfl)) T.z_list (ja_cons (je_var 4) ja_nil))) ja_nil))))
  (jss_cons (js_if (jt_cmp (opr_eq hr.units) opb_eq (je_call dm__law_determinant_R5 (hr.mono (by decide)) tk_of (ja_cons (je_var 2) ja_nil) (alen_cons alen_nil)) (je_tup (ja_cons je_int (ja_cons je_int ja_nil))))
  (jss_one (js_ret (je_and (je_call d__law_raises (hr.mono (by decide)) tk_of (ja_cons (je_var 2) (ja_cons (je_var 4) ja_nil)) (alen_cons (alen_cons alen_nil))) (je_one (je_cmp (opr_eq hr.units) opb_eq (je_tup (ja_cons (je_var 2) (ja_cons (je_var 4) ja_nil))) (je_var 5))))))
  jss_nil)
  (jss_cons (js_asg (i := 6) sc.nd (je_frz (je_call d_solve (hr.mono (by decide)) tk_of (ja_cons (je_var 2) (ja_cons (je_var 4) ja_nil)) (alen_cons (alen_cons alen_nil)))))
  (jss_cons (js_if (jw_pt (jw_or (jt_cmp (opr_ne hr.units) opb_ne (je_tup (ja_cons (je_var 2) (ja_cons (je_var 4) ja_nil))) (je_var 5)) (jw_or (jt_not (jt_tr (je_isi (je_var 6) T.z_isinstance T.z_list))) (jw_or1 (jt_cmp (opr_ne hr.units) opb_ne (je_cb call_len cd_len T.z_len (ja_cons (je_var 6) ja_nil)) (je_var 1))))))
  (jss_one (js_ret je_bl))
  (jss_weak (μ' := [.d, .x, .d, .d, .d, .x, .d, .x, .x, .x]) jss_nil))
  (jss_cons (js_for po_of (ji_list (je_var 6)) (jg_name (i := 7) sc.nd)
  (jss_one (js_if (jt_not (jt_tr (je_call d__law_is_ratio (hr.mono (by decide)) tk_of (ja_cons (je_var 7) ja_nil) (alen_cons alen_nil))))
  (jss_one (js_ret je_bl))
  (jss_weak (μ' := [.d, .x, .d, .d, .d, .x, .d, .x, .x, .x]) jss_nil))))
  (jss_cons (js_if (jw_pt (jw_and (jt_cmp (opr_ne hr.units) opb_ne (je_mod (je_call d__law_cell (hr.mono (by decide)) tk_of (ja_cons (je_var 0) (ja_cons je_int ja_nil)) (alen_cons (alen_cons alen_nil))) je_int) je_int) (jw_and1 (jt_cmp (opr_ne hr.units) opb_ne (je_var 6) (je_var 3)))))
  (jss_one (js_ret je_bl))
  (jss_weak (μ' := [.x, .x, .d, .x, .d, .x, .d, .x, .x, .x]) jss_nil))
  (jss_one (js_ret (je_cmp (opr_eq hr.units) opb_eq (je_frz (je_call d__law_product (hr.mono (by decide)) tk_of (ja_cons (je_var 2) (ja_cons (je_var 6) ja_nil)) (alen_cons (alen_cons alen_nil)))) (je_var 4))))))))))))))))
end
noncomputable def spLaw (K : PySem.W.Frag) : Sp := fun vs H Q _ => ∃ (a : Addr) (ns : List Int), vs = [.ref a] ∧ SqL K H a (ns.map V.int) ∧ ns.length ≤ 63 ∧ (∀ z ∈ ns, z.natAbs < 2 ^ bitsMost) ∧ ∀ H', Q (.bl true) H'
theorem all_mk {l : PySem.W.OpenLaw} {w : World} {K : PySem.W.Frag} {h : Heap} {mg : Str → Option Value} {fa : Addr} (X : K.In h) (G0 : h.Ns mainGlobals mg) (hfa : mg "law" = some (.ref fa))
    {f0 : Addr} {oc0 : Value} {od0 an0 : Option Addr} {sl0 : Array (Option Value)} {kV0 dc0 pm0 cd0 ct0 : Value}
    (a0 : PySem.W.nsIn K mainGlobals "_law_cell" = some (some (.ref f0)))
    (l0 : K.lookup f0 = some ⟨oc0, od0, .func (PySem.W.fnOf "_law_cell" "_law_cell" (defArgs (top 16)) (defBody (top 16)) (defScope (top 16)) .none kV0 dc0 pm0 an0 cd0 ct0), sl0⟩) (c0 : PySem.W.codeIn K cd0 "_law_cell" = true) (k0 : PySem.W.keepIn K (.ref f0) = true)
    {f1 : Addr} {oc1 : Value} {od1 an1 : Option Addr} {sl1 : Array (Option Value)} {kV1 dc1 pm1 cd1 ct1 : Value}
    (a1 : PySem.W.nsIn K mainGlobals "_law_low" = some (some (.ref f1)))
    (l1 : K.lookup f1 = some ⟨oc1, od1, .func (PySem.W.fnOf "_law_low" "_law_low" (defArgs (top 17)) (defBody (top 17)) (defScope (top 17)) .none kV1 dc1 pm1 an1 cd1 ct1), sl1⟩) (c1 : PySem.W.codeIn K cd1 "_law_low" = true) (k1 : PySem.W.keepIn K (.ref f1) = true)
    {f2 : Addr} {oc2 : Value} {od2 an2 : Option Addr} {sl2 : Array (Option Value)} {kV2 dc2 pm2 cd2 ct2 : Value}
    (a2 : PySem.W.nsIn K mainGlobals "_law_small" = some (some (.ref f2)))
    (l2 : K.lookup f2 = some ⟨oc2, od2, .func (PySem.W.fnOf "_law_small" "_law_small" (defArgs (top 19)) (defBody (top 19)) (defScope (top 19)) .none kV2 dc2 pm2 an2 cd2 ct2), sl2⟩) (c2 : PySem.W.codeIn K cd2 "_law_small" = true) (k2 : PySem.W.keepIn K (.ref f2) = true)
    {f3 : Addr} {oc3 : Value} {od3 an3 : Option Addr} {sl3 : Array (Option Value)} {kV3 dc3 pm3 cd3 ct3 : Value}
    (a3 : PySem.W.nsIn K mainGlobals "_law_rows" = some (some (.ref f3)))
    (l3 : K.lookup f3 = some ⟨oc3, od3, .func (PySem.W.fnOf "_law_rows" "_law_rows" (defArgs (top 20)) (defBody (top 20)) (defScope (top 20)) .none kV3 dc3 pm3 an3 cd3 ct3), sl3⟩) (c3 : PySem.W.codeIn K cd3 "_law_rows" = true) (k3 : PySem.W.keepIn K (.ref f3) = true)
    {f4 : Addr} {oc4 : Value} {od4 an4 : Option Addr} {sl4 : Array (Option Value)} {kV4 dc4 pm4 cd4 ct4 : Value}
    (a4 : PySem.W.nsIn K mainGlobals "_law_sum" = some (some (.ref f4)))
    (l4 : K.lookup f4 = some ⟨oc4, od4, .func (PySem.W.fnOf "_law_sum" "_law_sum" (defArgs (top 21)) (defBody (top 21)) (defScope (top 21)) .none kV4 dc4 pm4 an4 cd4 ct4), sl4⟩) (c4 : PySem.W.codeIn K cd4 "_law_sum" = true) (k4 : PySem.W.keepIn K (.ref f4) = true)
    {f5 : Addr} {oc5 : Value} {od5 an5 : Option Addr} {sl5 : Array (Option Value)} {kV5 dc5 pm5 cd5 ct5 : Value}
    (a5 : PySem.W.nsIn K mainGlobals "is_integer" = some (some (.ref f5)))
    (l5 : K.lookup f5 = some ⟨oc5, od5, .func (PySem.W.fnOf "is_integer" "is_integer" (defArgs (top 5)) (defBody (top 5)) (defScope (top 5)) .none kV5 dc5 pm5 an5 cd5 ct5), sl5⟩) (c5 : PySem.W.codeIn K cd5 "is_integer" = true) (k5 : PySem.W.keepIn K (.ref f5) = true)
    {f6 : Addr} {oc6 : Value} {od6 an6 : Option Addr} {sl6 : Array (Option Value)} {kV6 dc6 pm6 cd6 ct6 : Value}
    (a6 : PySem.W.nsIn K mainGlobals "common_divisor" = some (some (.ref f6)))
    (l6 : K.lookup f6 = some ⟨oc6, od6, .func (PySem.W.fnOf "common_divisor" "common_divisor" (defArgs (top 6)) (defBody (top 6)) (defScope (top 6)) .none kV6 dc6 pm6 an6 cd6 ct6), sl6⟩) (c6 : PySem.W.codeIn K cd6 "common_divisor" = true) (k6 : PySem.W.keepIn K (.ref f6) = true)
    {f7 : Addr} {oc7 : Value} {od7 an7 : Option Addr} {sl7 : Array (Option Value)} {kV7 dc7 pm7 cd7 ct7 : Value} {dV7 : Value}
    (a7 : PySem.W.nsIn K mainGlobals "ratio" = some (some (.ref f7)))
    (l7 : K.lookup f7 = some ⟨oc7, od7, .func (PySem.W.fnOf "ratio" "ratio" (defArgs (top 7)) (defBody (top 7)) (defScope (top 7)) dV7 kV7 dc7 pm7 an7 cd7 ct7), sl7⟩) (c7 : PySem.W.codeIn K cd7 "ratio" = true) (k7 : PySem.W.keepIn K (.ref f7) = true)
    {dT7 : Addr} {dO7 : Obj} {dn7 : Nat} {dt7_0 : Tok} (dv7 : dV7 = .ref dT7) (dl7 : K.lookup dT7 = some dO7) (dd7 : dO7.data = .seq #[.int 1 dt7_0] dn7)
    {f8 : Addr} {oc8 : Value} {od8 an8 : Option Addr} {sl8 : Array (Option Value)} {kV8 dc8 pm8 cd8 ct8 : Value}
    (a8 : PySem.W.nsIn K mainGlobals "over" = some (some (.ref f8)))
    (l8 : K.lookup f8 = some ⟨oc8, od8, .func (PySem.W.fnOf "over" "over" (defArgs (top 10)) (defBody (top 10)) (defScope (top 10)) .none kV8 dc8 pm8 an8 cd8 ct8), sl8⟩) (c8 : PySem.W.codeIn K cd8 "over" = true) (k8 : PySem.W.keepIn K (.ref f8) = true)
    {f9 : Addr} {oc9 : Value} {od9 an9 : Option Addr} {sl9 : Array (Option Value)} {kV9 dc9 pm9 cd9 ct9 : Value}
    (a9 : PySem.W.nsIn K mainGlobals "sub" = some (some (.ref f9)))
    (l9 : K.lookup f9 = some ⟨oc9, od9, .func (PySem.W.fnOf "sub" "sub" (defArgs (top 8)) (defBody (top 8)) (defScope (top 8)) .none kV9 dc9 pm9 an9 cd9 ct9), sl9⟩) (c9 : PySem.W.codeIn K cd9 "sub" = true) (k9 : PySem.W.keepIn K (.ref f9) = true)
    {f10 : Addr} {oc10 : Value} {od10 an10 : Option Addr} {sl10 : Array (Option Value)} {kV10 dc10 pm10 cd10 ct10 : Value}
    (a10 : PySem.W.nsIn K mainGlobals "times" = some (some (.ref f10)))
    (l10 : K.lookup f10 = some ⟨oc10, od10, .func (PySem.W.fnOf "times" "times" (defArgs (top 9)) (defBody (top 9)) (defScope (top 9)) .none kV10 dc10 pm10 an10 cd10 ct10), sl10⟩) (c10 : PySem.W.codeIn K cd10 "times" = true) (k10 : PySem.W.keepIn K (.ref f10) = true)
    {f11 : Addr} {oc11 : Value} {od11 an11 : Option Addr} {sl11 : Array (Option Value)} {kV11 dc11 pm11 cd11 ct11 : Value}
    (a11 : PySem.W.nsIn K mainGlobals "without_column" = some (some (.ref f11)))
    (l11 : K.lookup f11 = some ⟨oc11, od11, .func (PySem.W.fnOf "without_column" "without_column" (defArgs (top 13)) (defBody (top 13)) (defScope (top 13)) .none kV11 dc11 pm11 an11 cd11 ct11), sl11⟩) (c11 : PySem.W.codeIn K cd11 "without_column" = true) (k11 : PySem.W.keepIn K (.ref f11) = true)
    {f12 : Addr} {oc12 : Value} {od12 an12 : Option Addr} {sl12 : Array (Option Value)} {kV12 dc12 pm12 cd12 ct12 : Value}
    (a12 : PySem.W.nsIn K mainGlobals "solve" = some (some (.ref f12)))
    (l12 : K.lookup f12 = some ⟨oc12, od12, .func (PySem.W.fnOf "solve" "solve" (defArgs (top 14)) (defBody (top 14)) (defScope (top 14)) .none kV12 dc12 pm12 an12 cd12 ct12), sl12⟩) (c12 : PySem.W.codeIn K cd12 "solve" = true) (k12 : PySem.W.keepIn K (.ref f12) = true)
    {f13 : Addr} {oc13 : Value} {od13 an13 : Option Addr} {sl13 : Array (Option Value)} {kV13 dc13 pm13 cd13 ct13 : Value}
    (a13 : PySem.W.nsIn K mainGlobals "_law_times" = some (some (.ref f13)))
    (l13 : K.lookup f13 = some ⟨oc13, od13, .func (PySem.W.fnOf "_law_times" "_law_times" (defArgs (top 22)) (defBody (top 22)) (defScope (top 22)) .none kV13 dc13 pm13 an13 cd13 ct13), sl13⟩) (c13 : PySem.W.codeIn K cd13 "_law_times" = true) (k13 : PySem.W.keepIn K (.ref f13) = true)
    {f14 : Addr} {oc14 : Value} {od14 an14 : Option Addr} {sl14 : Array (Option Value)} {kV14 dc14 pm14 cd14 ct14 : Value}
    (a14 : PySem.W.nsIn K mainGlobals "_law_product" = some (some (.ref f14)))
    (l14 : K.lookup f14 = some ⟨oc14, od14, .func (PySem.W.fnOf "_law_product" "_law_product" (defArgs (top 23)) (defBody (top 23)) (defScope (top 23)) .none kV14 dc14 pm14 an14 cd14 ct14), sl14⟩) (c14 : PySem.W.codeIn K cd14 "_law_product" = true) (k14 : PySem.W.keepIn K (.ref f14) = true)
    {f15 : Addr} {oc15 : Value} {od15 an15 : Option Addr} {sl15 : Array (Option Value)} {kV15 dc15 pm15 cd15 ct15 : Value}
    (a15 : PySem.W.nsIn K mainGlobals "_law_raises" = some (some (.ref f15)))
    (l15 : K.lookup f15 = some ⟨oc15, od15, .func (PySem.W.fnOf "_law_raises" "_law_raises" (defArgs (top 26)) (defBody (top 26)) (defScope (top 26)) .none kV15 dc15 pm15 an15 cd15 ct15), sl15⟩) (c15 : PySem.W.codeIn K cd15 "_law_raises" = true) (k15 : PySem.W.keepIn K (.ref f15) = true)
    {f16 : Addr} {oc16 : Value} {od16 an16 : Option Addr} {sl16 : Array (Option Value)} {kV16 dc16 pm16 cd16 ct16 : Value}
    (a16 : PySem.W.nsIn K mainGlobals "_law_great" = some (some (.ref f16)))
    (l16 : K.lookup f16 = some ⟨oc16, od16, .func (PySem.W.fnOf "_law_great" "_law_great" (defArgs (top 27)) (defBody (top 27)) (defScope (top 27)) .none kV16 dc16 pm16 an16 cd16 ct16), sl16⟩) (c16 : PySem.W.codeIn K cd16 "_law_great" = true) (k16 : PySem.W.keepIn K (.ref f16) = true)
    {f17 : Addr} {oc17 : Value} {od17 an17 : Option Addr} {sl17 : Array (Option Value)} {kV17 dc17 pm17 cd17 ct17 : Value}
    (a17 : PySem.W.nsIn K mainGlobals "_law_is_ratio" = some (some (.ref f17)))
    (l17 : K.lookup f17 = some ⟨oc17, od17, .func (PySem.W.fnOf "_law_is_ratio" "_law_is_ratio" (defArgs (top 18)) (defBody (top 18)) (defScope (top 18)) .none kV17 dc17 pm17 an17 cd17 ct17), sl17⟩) (c17 : PySem.W.codeIn K cd17 "_law_is_ratio" = true) (k17 : PySem.W.keepIn K (.ref f17) = true)
    {f18 : Addr} {oc18 : Value} {od18 an18 : Option Addr} {sl18 : Array (Option Value)} {kV18 dc18 pm18 cd18 ct18 : Value}
    (a18 : PySem.W.nsIn K mainGlobals "_law_spoilt" = some (some (.ref f18)))
    (l18 : K.lookup f18 = some ⟨oc18, od18, .func (PySem.W.fnOf "_law_spoilt" "_law_spoilt" (defArgs (top 25)) (defBody (top 25)) (defScope (top 25)) .none kV18 dc18 pm18 an18 cd18 ct18), sl18⟩) (c18 : PySem.W.codeIn K cd18 "_law_spoilt" = true) (k18 : PySem.W.keepIn K (.ref f18) = true)
    {f19 : Addr} {oc19 : Value} {od19 an19 : Option Addr} {sl19 : Array (Option Value)} {kV19 dc19 pm19 cd19 ct19 : Value}
    (a19 : PySem.W.nsIn K mainGlobals "_law_determinant" = some (some (.ref f19)))
    (l19 : K.lookup f19 = some ⟨oc19, od19, .func (PySem.W.fnOf "_law_determinant" "_law_determinant" (defArgs (top 24)) (defBody (top 24)) (defScope (top 24)) .none kV19 dc19 pm19 an19 cd19 ct19), sl19⟩) (c19 : PySem.W.codeIn K cd19 "_law_determinant" = true) (k19 : PySem.W.keepIn K (.ref f19) = true)
    {f20 : Addr} {oc20 : Value} {od20 an20 : Option Addr} {sl20 : Array (Option Value)} {kV20 dc20 pm20 cd20 ct20 : Value}
    (a20 : PySem.W.nsIn K mainGlobals "law" = some (some (.ref f20)))
    (l20 : K.lookup f20 = some ⟨oc20, od20, .func (PySem.W.fnOf "law" "law" (defArgs (top 28)) (defBody (top 28)) (defScope (top 28)) .none kV20 dc20 pm20 an20 cd20 ct20), sl20⟩) (c20 : PySem.W.codeIn K cd20 "law" = true) (k20 : PySem.W.keepIn K (.ref f20) = true)
    (z_len : PySem.W.nsIn K mainGlobals "len" = some none)
    (z_int : PySem.W.nsIn K mainGlobals "int" = some none)
    (z_abs : PySem.W.nsIn K mainGlobals "abs" = some none)
    (z_range : PySem.W.nsIn K mainGlobals "range" = some none)
    (z_isinstance : PySem.W.nsIn K mainGlobals "isinstance" = some none)
    (z_bool : PySem.W.nsIn K mainGlobals "bool" = some none)
    (z_zip : PySem.W.nsIn K mainGlobals "zip" = some none)
    (z_list : PySem.W.nsIn K mainGlobals "list" = some none)
    (z_enumerate : PySem.W.nsIn K mainGlobals "enumerate" = some none)
    (z_tuple : PySem.W.nsIn K mainGlobals "tuple" = some none)
    {g_ZERO : Addr} {go_ZERO : Obj} {gn_ZERO : Nat} {gt_ZERO_0 : Tok} {gt_ZERO_1 : Tok} (gc_ZERO : PySem.W.nsIn K mainGlobals "ZERO" = some (some (.ref g_ZERO))) (gl_ZERO : K.lookup g_ZERO = some go_ZERO) (gt_ZERO : go_ZERO.cls = .type "tuple") (gd_ZERO : go_ZERO.data = .seq #[.int 0 gt_ZERO_0, .int 1 gt_ZERO_1] gn_ZERO)
    {x_InvalidRatio : Addr} (xa_InvalidRatio : PySem.W.nsIn K mainGlobals "InvalidRatio" = some (some (.ref x_InvalidRatio)))
    {x_Singular : Addr} (xa_Singular : PySem.W.nsIn K mainGlobals "Singular" = some (some (.ref x_Singular)))
    {x_PriceError : Addr} (xa_PriceError : PySem.W.nsIn K mainGlobals "PriceError" = some (some (.ref x_PriceError)))
    (xe_InvalidRatio : PySem.W.excIn K x_InvalidRatio [.type "ValueError", .type "Exception", .type "BaseException", .type "object"] "ValueError.__new__" = true) (xk_InvalidRatio : PySem.W.keepIn K (.ref x_InvalidRatio) = true) (xs_InvalidRatio : PySem.W.subIn K (.ref x_InvalidRatio) (.type "BaseException") = some true) (xt_InvalidRatio : PySem.W.typeIn K (.ref x_InvalidRatio) = some (.type "type"))
    (xe_Singular : PySem.W.excIn K x_Singular [.type "ValueError", .type "Exception", .type "BaseException", .type "object"] "ValueError.__new__" = true) (xk_Singular : PySem.W.keepIn K (.ref x_Singular) = true) (xs_Singular : PySem.W.subIn K (.ref x_Singular) (.type "BaseException") = some true) (xt_Singular : PySem.W.typeIn K (.ref x_Singular) = some (.type "type"))
    (xd_Singular : PySem.W.hasDictIn K x_Singular = true) (xr_Singular : PySem.W.subIn K (.ref x_Singular) (.ref x_Singular) = some true)
    (xu_InvalidRatio_Singular : PySem.W.subIn K (.ref x_InvalidRatio) (.ref x_Singular) = some false)
    (xs_PriceError : PySem.W.subIn K (.ref x_PriceError) (.type "BaseException") = some true) (xt_PriceError : PySem.W.typeIn K (.ref x_PriceError) = some (.type "type"))
    (xd_PriceError : PySem.W.hasDictIn K x_PriceError = true) (xr_PriceError : PySem.W.subIn K (.ref x_PriceError) (.ref x_PriceError) = some true)
    (xu_InvalidRatio_PriceError : PySem.W.subIn K (.ref x_InvalidRatio) (.ref x_PriceError) = some true)
    (xu_Singular_PriceError : PySem.W.subIn K (.ref x_Singular) (.ref x_PriceError) = some true)
    (xn_ : PySem.W.specialIn K (.builtin "object.__class__") "__get__" = some (some (.builtin "getset_descriptor.__get__"))) (xt_ : PySem.W.takesIn K (.builtin "object.__class__") = some true)
    (xc_InvalidRatio_hg : PySem.W.findIn K (.ref x_InvalidRatio) "__getattribute__" = some (some (.builtin "BaseException.__getattribute__")))
    (xc_InvalidRatio_hk : PySem.W.findIn K (.ref x_InvalidRatio) "__getattr__" = some none)
    (xc_InvalidRatio_hs : PySem.W.subIn K (.ref x_InvalidRatio) (.type "BaseException") = some true)
    (xc_InvalidRatio_hd : PySem.W.hasDictIn K x_InvalidRatio = true)
    (xc_InvalidRatio_ha : PySem.W.findIn K (.ref x_InvalidRatio) "__class__" = some (some (.builtin "object.__class__")))
    (xc_InvalidRatio_hm : PySem.W.mroIn K x_InvalidRatio (.type "object") = some true)
    (xc_Singular_hg : PySem.W.findIn K (.ref x_Singular) "__getattribute__" = some (some (.builtin "BaseException.__getattribute__")))
    (xc_Singular_hk : PySem.W.findIn K (.ref x_Singular) "__getattr__" = some none)
    (xc_Singular_hs : PySem.W.subIn K (.ref x_Singular) (.type "BaseException") = some true)
    (xc_Singular_hd : PySem.W.hasDictIn K x_Singular = true)
    (xc_Singular_ha : PySem.W.findIn K (.ref x_Singular) "__class__" = some (some (.builtin "object.__class__")))
    (xc_Singular_hm : PySem.W.mroIn K x_Singular (.type "object") = some true) :
    ∃ fd : FuncData, (∀ (s : Shared) (v : Value), BindsTo s fd ⟨[v], []⟩ [("_law_script", v)]) ∧ ∀ base : Heap, K.In base → base.Ns mainGlobals mg → FnOk l.prog w K mg base (L2.CX l.prog w) 8 fa fd ["_law_script"] (spLaw K) := by
  have e0 := hfa.symm.trans (PySem.W.mg_of X G0 a20)
  cases e0
  obtain ⟨G, hG⟩ : ∃ G : Cl, G = ⟨fun c => 0, fun t => if t = 1 then x_Singular else if t = 0 then x_InvalidRatio else 0⟩ := ⟨_, rfl⟩
  have T : Txt K mg G := ⟨PySem.W.mg_none_of X G0 z_len, PySem.W.mg_none_of X G0 z_int, PySem.W.mg_none_of X G0 z_abs, PySem.W.mg_none_of X G0 z_range, PySem.W.mg_none_of X G0 z_isinstance, PySem.W.mg_none_of X G0 z_bool, PySem.W.mg_none_of X G0 z_zip, PySem.W.mg_none_of X G0 z_list, PySem.W.mg_none_of X G0 z_enumerate, PySem.W.mg_none_of X G0 z_tuple, ⟨.ref g_ZERO, .ref g_ZERO, PySem.W.mg_of X G0 gc_ZERO, rfl, fun S => .tup (.inr ⟨go_ZERO, _, gn_ZERO, gl_ZERO, gt_ZERO, gd_ZERO, (show 2 ≤ sizeLine by decide), .cons (show RelV (.int 0) _ from ⟨_, rfl⟩) (.cons (show RelV (.int 1) _ from ⟨_, rfl⟩) (.nil))⟩) (.cons (.int 0) (.cons (.int 1) (.nil)))⟩, ⟨⟨x_InvalidRatio, PySem.W.mg_of X G0 xa_InvalidRatio, by rw [hG]; rfl, xe_InvalidRatio, xk_InvalidRatio, xs_InvalidRatio, xt_InvalidRatio⟩, fun n z => by cases z⟩, ⟨⟨x_Singular, PySem.W.mg_of X G0 xa_Singular, by rw [hG]; rfl, xe_Singular, xk_Singular, xs_Singular, xt_Singular⟩, fun n z => by cases z⟩, ⟨x_Singular, PySem.W.mg_of X G0 xa_Singular, fun e he => by rw [hG]; cases e <;> first | exact PySem.W.exm_ref xs_Singular xd_Singular xt_Singular xu_InvalidRatio_Singular | exact PySem.W.exm_ref xs_Singular xd_Singular xt_Singular xr_Singular | (exfalso; revert he; simp [Err.tag])⟩, ⟨x_PriceError, PySem.W.mg_of X G0 xa_PriceError, fun e he => by rw [hG]; cases e <;> first | exact kit_ref xd_PriceError xt_PriceError xr_PriceError xu_InvalidRatio_PriceError | exact kit_ref xd_PriceError xt_PriceError xr_PriceError xu_Singular_PriceError | (exfalso; revert he; simp [Err.tag])⟩, ⟨fun t ht => by rw [hG]; simp only [tags, List.mem_cons, List.mem_nil_iff, or_false] at ht; rcases ht with rfl | rfl <;> first | exact ⟨xc_InvalidRatio_hg, xc_InvalidRatio_hk, xc_InvalidRatio_hs, xc_InvalidRatio_hd, xc_InvalidRatio_ha, xn_, xt_, xc_InvalidRatio_hm⟩ | exact ⟨xc_Singular_hg, xc_Singular_hk, xc_Singular_hs, xc_Singular_hd, xc_Singular_ha, xn_, xt_, xc_Singular_hm⟩⟩⟩
  have F0 := fun_mk (st := top 16) l0 c0 k0
  have b0 := F0.binds (ps := ["_law_script", "_law_k"]) fun _ _ _ _ _ _ us hl => match us, hl with | [_, _], _ => rfl
  have F1 := fun_mk (st := top 17) l1 c1 k1
  have b1 := F1.binds (ps := ["_law_n", "_law_d"]) fun _ _ _ _ _ _ us hl => match us, hl with | [_, _], _ => rfl
  have F2 := fun_mk (st := top 19) l2 c2 k2
  have b2 := F2.binds (ps := ["_law_cell_here"]) fun _ _ _ _ _ _ us hl => match us, hl with | [_], _ => rfl
  have F3 := fun_mk (st := top 20) l3 c3 k3
  have b3 := F3.binds (ps := ["_law_script", "_law_at", "_law_count"]) fun _ _ _ _ _ _ us hl => match us, hl with | [_, _, _], _ => rfl
  have F4 := fun_mk (st := top 21) l4 c4 k4
  have b4 := F4.binds (ps := ["_law_parts"]) fun _ _ _ _ _ _ us hl => match us, hl with | [_], _ => rfl
  have F5 := fun_mk (st := top 5) l5 c5 k5
  have b5 := F5.binds (ps := ["value"]) fun _ _ _ _ _ _ us hl => match us, hl with | [_], _ => rfl
  have F6 := fun_mk (st := top 6) l6 c6 k6
  have b6 := F6.binds (ps := ["a", "b"]) fun _ _ _ _ _ _ us hl => match us, hl with | [_, _], _ => rfl
  have F7 : FunD K "ratio" "ratio" (defArgs (top 7)) (defBody (top 7)) (defScope (top 7)) [.int 1] [] f7 _ := ⟨⟨oc7, od7, dV7, kV7, dc7, pm7, an7, cd7, ct7, sl7, rfl, l7, c7, .inr ⟨by simp, dT7, dO7, _, dn7, dv7, dl7, dd7, .cons ⟨_, rfl⟩ (.nil)⟩, .inl rfl⟩, k7⟩
  have F8 := fun_mk (st := top 10) l8 c8 k8
  have b8 := F8.binds (ps := ["a", "b"]) fun _ _ _ _ _ _ us hl => match us, hl with | [_, _], _ => rfl
  have F9 := fun_mk (st := top 8) l9 c9 k9
  have b9 := F9.binds (ps := ["a", "b"]) fun _ _ _ _ _ _ us hl => match us, hl with | [_, _], _ => rfl
  have F10 := fun_mk (st := top 9) l10 c10 k10
  have b10 := F10.binds (ps := ["a", "b"]) fun _ _ _ _ _ _ us hl => match us, hl with | [_, _], _ => rfl
  have F11 := fun_mk (st := top 13) l11 c11 k11
  have b11 := F11.binds (ps := ["row", "own", "at"]) fun _ _ _ _ _ _ us hl => match us, hl with | [_, _, _], _ => rfl
  have F12 := fun_mk (st := top 14) l12 c12 k12
  have b12 := F12.binds (ps := ["rows", "right"]) fun _ _ _ _ _ _ us hl => match us, hl with | [_, _], _ => rfl
  have F13 := fun_mk (st := top 22) l13 c13 k13
  have b13 := F13.binds (ps := ["_law_a", "_law_b"]) fun _ _ _ _ _ _ us hl => match us, hl with | [_, _], _ => rfl
  have F14 := fun_mk (st := top 23) l14 c14 k14
  have b14 := F14.binds (ps := ["_law_rows_here", "_law_values"]) fun _ _ _ _ _ _ us hl => match us, hl with | [_, _], _ => rfl
  have F15 := fun_mk (st := top 26) l15 c15 k15
  have b15 := F15.binds (ps := ["_law_rows_here", "_law_right"]) fun _ _ _ _ _ _ us hl => match us, hl with | [_, _], _ => rfl
  have F16 := fun_mk (st := top 27) l16 c16 k16
  have b16 := F16.binds (ps := ["_law_script"]) fun _ _ _ _ _ _ us hl => match us, hl with | [_], _ => rfl
  have F17 := fun_mk (st := top 18) l17 c17 k17
  have b17 := F17.binds (ps := ["_law_actual"]) fun _ _ _ _ _ _ us hl => match us, hl with | [_], _ => rfl
  have F18 := fun_mk (st := top 25) l18 c18 k18
  have b18 := F18.binds (ps := ["_law_rows_here", "_law_cell_here"]) fun _ _ _ _ _ _ us hl => match us, hl with | [_, _], _ => rfl
  have F19 := fun_mk (st := top 24) l19 c19 k19
  have b19 := F19.binds (ps := ["_law_rows_here"]) fun _ _ _ _ _ _ us hl => match us, hl with | [_], _ => rfl
  have F20 := fun_mk (st := top 28) l20 c20 k20
  have b20 := F20.binds (ps := ["_law_script"]) fun _ _ _ _ _ _ us hl => match us, hl with | [_], _ => rfl
  refine ⟨PySem.W.fnOf "law" "law" (defArgs (top 28)) (defBody (top 28)) (defScope (top 28)) .none kV20 dc20 pm20 an20 cd20 ct20, fun s v => .of_eq rfl, fun base _ _ => ?_⟩
  have o0 := okm__law_cell (P := l.prog) (w := w) (base := base) F0 T
  have d__law_cell : DefO l.prog w K mg base G "_law_cell" 2 .d RV.m__law_cell 1 [] := ⟨_, _, _, _, [], o0, PySem.W.mg_of X G0 a0, k0, b0, .nil, fun _ => .nil⟩
  have o1 := okm__law_low (P := l.prog) (w := w) (base := base) F1 T
  have d__law_low : DefO l.prog w K mg base G "_law_low" 2 .d RV.m__law_low 1 [] := ⟨_, _, _, _, [], o1, PySem.W.mg_of X G0 a1, k1, b1, .nil, fun _ => .nil⟩
  have o2 := okm__law_small (P := l.prog) (w := w) (base := base) F2 T d__law_low
  have d__law_small : DefO l.prog w K mg base G "_law_small" 1 .d RV.m__law_small 2 [] := ⟨_, _, _, _, [], o2, PySem.W.mg_of X G0 a2, k2, b2, .nil, fun _ => .nil⟩
  have o3 := okm__law_rows (P := l.prog) (w := w) (base := base) F3 T d__law_cell d__law_small
  have d__law_rows : DefO l.prog w K mg base G "_law_rows" 3 (.w (.l (.all (.l (.all .d))))) m__law_rows 3 [] := ⟨_, _, _, _, [], o3, PySem.W.mg_of X G0 a3, k3, b3, .nil, fun _ => .nil⟩
  have o4 := okm__law_sum (P := l.prog) (w := w) (base := base) F4 T d__law_low
  have d__law_sum : DefO l.prog w K mg base G "_law_sum" 1 .d RV.m__law_sum 2 [] := ⟨_, _, _, _, [], o4, PySem.W.mg_of X G0 a4, k4, b4, .nil, fun _ => .nil⟩
  have o5 := okm_is_integer (P := l.prog) (w := w) (base := base) F5 T
  have d_is_integer : DefO l.prog w K mg base G "is_integer" 1 .d RV.m_is_integer 1 [] := ⟨_, _, _, _, [], o5, PySem.W.mg_of X G0 a5, k5, b5, .nil, fun _ => .nil⟩
  have o6 := okm_common_divisor (P := l.prog) (w := w) (base := base) F6 T
  have d_common_divisor : DefO l.prog w K mg base G "common_divisor" 2 .d RV.m_common_divisor 1 [] := ⟨_, _, _, _, [], o6, PySem.W.mg_of X G0 a6, k6, b6, .nil, fun _ => .nil⟩
  have o7 := okm_ratio (P := l.prog) (w := w) (base := base) F7 T d_is_integer d_common_divisor
  have d_ratio : DefO l.prog w K mg base G "ratio" 2 .d RV.m_ratio 2 [] := defD_mk0 o7 (PySem.W.mg_of X G0 a7) k7 F7 (by simp) rfl (fun _ _ _ _ _ _ _ us its hl hi => match us, its, hl, hi with | [_, _], [_], _, _ => ⟨_, rfl, rfl⟩)
  have o8 := okm_over (P := l.prog) (w := w) (base := base) F8 T d_ratio
  have d_over : DefO l.prog w K mg base G "over" 2 .d RV.m_over 3 [] := ⟨_, _, _, _, [], o8, PySem.W.mg_of X G0 a8, k8, b8, .nil, fun _ => .nil⟩
  have o9 := okm_sub (P := l.prog) (w := w) (base := base) F9 T d_ratio
  have d_sub : DefO l.prog w K mg base G "sub" 2 .d RV.m_sub 3 [] := ⟨_, _, _, _, [], o9, PySem.W.mg_of X G0 a9, k9, b9, .nil, fun _ => .nil⟩
  have o10 := okm_times (P := l.prog) (w := w) (base := base) F10 T d_ratio
  have d_times : DefO l.prog w K mg base G "times" 2 .d RV.m_times 3 [] := ⟨_, _, _, _, [], o10, PySem.W.mg_of X G0 a10, k10, b10, .nil, fun _ => .nil⟩
  have o11 := okm_without_column (P := l.prog) (w := w) (base := base) F11 T d_over d_times d_sub
  have d_without_column : DefO l.prog w K mg base G "without_column" 3 .o RV.m_without_column 4 [] := ⟨_, _, _, _, [], o11, PySem.W.mg_of X G0 a11, k11, b11, .nil, fun _ => .nil⟩
  have o12 := okm_solve (P := l.prog) (w := w) (base := base) F12 T d_without_column d_over
  have d_solve : DefO l.prog w K mg base G "solve" 2 .o RV.m_solve 5 [] := ⟨_, _, _, _, [], o12, PySem.W.mg_of X G0 a12, k12, b12, .nil, fun _ => .nil⟩
  have o13 := okm__law_times (P := l.prog) (w := w) (base := base) F13 T d__law_low
  have d__law_times : DefO l.prog w K mg base G "_law_times" 2 .d RV.m__law_times 2 [] := ⟨_, _, _, _, [], o13, PySem.W.mg_of X G0 a13, k13, b13, .nil, fun _ => .nil⟩
  have o14 := okm__law_product (P := l.prog) (w := w) (base := base) F14 T d__law_times d__law_sum
  have d__law_product : DefO l.prog w K mg base G "_law_product" 2 .o RV.m__law_product 3 [] := ⟨_, _, _, _, [], o14, PySem.W.mg_of X G0 a14, k14, b14, .nil, fun _ => .nil⟩
  have o15 := okm__law_raises (P := l.prog) (w := w) (base := base) F15 T d_solve
  have d__law_raises : DefO l.prog w K mg base G "_law_raises" 2 .d m__law_raises 6 [] := ⟨_, _, _, _, [], o15, PySem.W.mg_of X G0 a15, k15, b15, .nil, fun _ => .nil⟩
  have o16 := okm__law_great (P := l.prog) (w := w) (base := base) F16 T d__law_cell d__law_rows d__law_sum d__law_small d__law_product d_solve d__law_times d__law_raises
  have d__law_great : DefO l.prog w K mg base G "_law_great" 1 .d m__law_great 7 [] := ⟨_, _, _, _, [], o16, PySem.W.mg_of X G0 a16, k16, b16, .nil, fun _ => .nil⟩
  have o17 := okm__law_is_ratio (P := l.prog) (w := w) (base := base) F17 T d__law_low
  have d__law_is_ratio : DefO l.prog w K mg base G "_law_is_ratio" 1 .d RV.m__law_is_ratio 2 [] := ⟨_, _, _, _, [], o17, PySem.W.mg_of X G0 a17, k17, b17, .nil, fun _ => .nil⟩
  have o18 := okmC__law_spoilt (P := l.prog) (w := w) (base := base) F18 T d__law_times d__law_sum
  have dmC__law_spoilt : DefC l.prog w K mg base G "_law_spoilt" 1 .d (.l (.all (.l (.all .d)))) mC__law_spoilt 3 [] := ⟨_, _, _, _, [], o18, PySem.W.mg_of X G0 a18, k18, b18, .nil, fun _ => .nil⟩
  have o19 := okm__law_determinant_R0 (P := l.prog) (w := w) (base := base) F19 T
  have dm__law_determinant_R0 : DefO l.prog w K mg base G "_law_determinant" 1 .d m__law_determinant_R0 1 [] := ⟨_, _, _, _, [], o19, PySem.W.mg_of X G0 a19, k19, b19, .nil, fun _ => .nil⟩
  have o20 := okm__law_determinant_R1 (P := l.prog) (w := w) (base := base) F19 T d__law_times d__law_sum dm__law_determinant_R0
  have dm__law_determinant_R1 : DefO l.prog w K mg base G "_law_determinant" 1 .d m__law_determinant_R1 3 [] := ⟨_, _, _, _, [], o20, PySem.W.mg_of X G0 a19, k19, b19, .nil, fun _ => .nil⟩
  have o21 := okm__law_determinant_R2 (P := l.prog) (w := w) (base := base) F19 T d__law_times d__law_sum dm__law_determinant_R1
  have dm__law_determinant_R2 : DefO l.prog w K mg base G "_law_determinant" 1 .d m__law_determinant_R2 4 [] := ⟨_, _, _, _, [], o21, PySem.W.mg_of X G0 a19, k19, b19, .nil, fun _ => .nil⟩
  have o22 := okm__law_determinant_R3 (P := l.prog) (w := w) (base := base) F19 T d__law_times d__law_sum dm__law_determinant_R2
  have dm__law_determinant_R3 : DefO l.prog w K mg base G "_law_determinant" 1 .d m__law_determinant_R3 5 [] := ⟨_, _, _, _, [], o22, PySem.W.mg_of X G0 a19, k19, b19, .nil, fun _ => .nil⟩
  have o23 := okm__law_determinant_R4 (P := l.prog) (w := w) (base := base) F19 T d__law_times d__law_sum dm__law_determinant_R3
  have dm__law_determinant_R4 : DefO l.prog w K mg base G "_law_determinant" 1 .d m__law_determinant_R4 6 [] := ⟨_, _, _, _, [], o23, PySem.W.mg_of X G0 a19, k19, b19, .nil, fun _ => .nil⟩
  have o24 := okm__law_determinant_R5 (P := l.prog) (w := w) (base := base) F19 T d__law_times d__law_sum dm__law_determinant_R4
  have dm__law_determinant_R5 : DefO l.prog w K mg base G "_law_determinant" 1 .d m__law_determinant_R5 7 [] := ⟨_, _, _, _, [], o24, PySem.W.mg_of X G0 a19, k19, b19, .nil, fun _ => .nil⟩
  have o25 := okm_law (P := l.prog) (w := w) (base := base) F20 T d__law_great d__law_cell d__law_rows d__law_small d__law_product d__law_raises d_solve d__law_is_ratio dmC__law_spoilt dm__law_determinant_R5
  refine o25.imp fun vs H Q E ⟨a, ns, e1, hS, hl, hb, k⟩ => ?_
  subst e1
  refine ⟨Fo.nil0, H, [.scr ns], Evl.Ex.refl H, fun _ _ z => Fo.nil0_no z, .cons (.scr hS) .nil, rfl, ?_⟩
  rw [law_ok ns hl hb]
  intro v S' H' _ h'
  cases h'.head
  exact k H'
theorem walk {l : PySem.W.OpenLaw} {q : Program} {loose : List Str} {XP : (Str → Option Value) → Heap → Prop} {YP : World → Heap → Prop} {d : DefRec} {K : Params → PySem.W.Frag} (hn : l.most = some 63) (hdf : d.params.defaults = [])
    (hY : ∀ (w : World) (h : Heap), YP w h → (K w.params).In h)
    (F : ∀ (w : World) (mg : Str → Option Value) (fa : Addr) (h : Heap), (K w.params).In h → h.Ns mainGlobals mg → mg d.name = some (.ref fa) →
      ∃ fd : FuncData, (∀ (s : Shared) (u : Value), BindsTo s fd ⟨[u], []⟩ [("_law_script", u)]) ∧ ∀ base : Heap, (K w.params).In base → base.Ns mainGlobals mg → FnOk l.prog w (K w.params) mg base (L2.CX l.prog w) 8 fa fd ["_law_script"] (spLaw (K w.params))) :
    PySem.W.WalkO q loose XP YP l.row.toRowW d [] (fun f vs => PySem.call f vs) :=
  L2.walk_ofB (n := 63) (k := 8) (x := "_law_script") (CX := fun w => L2.CX l.prog w) (sp := fun w => spLaw (K w.params)) hn (by decide) hdf ⟨rfl, by decide, by decide⟩ hY F (fun _ _ a ns hl hb _ hS => ⟨a, ns, rfl, hS, hl, fun z hz => bits_lt (hb z hz), fun _ => rfl⟩) fun _ _ _ _ _ z => by
    obtain ⟨_, _, _, _, _, _, _, _, _, _, _, _, q⟩ := z
    exact q.elim
end K15
open PySem PySem.W PyProof.Rows
set_option maxRecDepth 100000 in
set_option maxHeartbeats 0 in
theorem PySem.Challenge.cw_rivalprices_k15_equations_solved_or_sing_holds : PySem.Challenge.rw_rivalprices_k15_equations_solved_or_sing.Holds := by
  w_on; o_law; k_head; (case hw => w_witness2)
  k_fill
  refine K15.walk (l := PySem.Challenge.rw_rivalprices_k15_equations_solved_or_sing) rfl rfl (fun w h Y => PySem.W.kIn_of Y) ?F
  case F =>
    intro w mg fa h KX G hmg
    refine' K15.all_mk KX G hmg ?a0 ?l0 ?c0 ?k0 ?a1 ?l1 ?c1 ?k1 ?a2 ?l2 ?c2 ?k2 ?a3 ?l3 ?c3 ?k3 ?a4 ?l4 ?c4 ?k4 ?a5 ?l5 ?c5 ?k5 ?a6 ?l6 ?c6 ?k6 ?a7 ?l7 ?c7 ?k7 ?dv7 ?dl7 ?dd7 ?a8 ?l8 ?c8 ?k8 ?a9 ?l9 ?c9 ?k9 ?a10 ?l10 ?c10 ?k10 ?a11 ?l11 ?c11 ?k11 ?a12 ?l12 ?c12 ?k12 ?a13 ?l13 ?c13 ?k13 ?a14 ?l14 ?c14 ?k14 ?a15 ?l15 ?c15 ?k15 ?a16 ?l16 ?c16 ?k16 ?a17 ?l17 ?c17 ?k17 ?a18 ?l18 ?c18 ?k18 ?a19 ?l19 ?c19 ?k19 ?a20 ?l20 ?c20 ?k20 ?z_len ?z_int ?z_abs ?z_range ?z_isinstance ?z_bool ?z_zip ?z_list ?z_enumerate ?z_tuple ?gc_ZERO ?gl_ZERO ?gt_ZERO ?gd_ZERO ?xa_InvalidRatio ?xa_Singular ?xa_PriceError ?xe_InvalidRatio ?xk_InvalidRatio ?xs_InvalidRatio ?xt_InvalidRatio ?xe_Singular ?xk_Singular ?xs_Singular ?xt_Singular ?xd_Singular ?xr_Singular ?xu_InvalidRatio_Singular ?xs_PriceError ?xt_PriceError ?xd_PriceError ?xr_PriceError ?xu_InvalidRatio_PriceError ?xu_Singular_PriceError ?xn_ ?xt_ ?xc_InvalidRatio_hg ?xc_InvalidRatio_hk ?xc_InvalidRatio_hs ?xc_InvalidRatio_hd ?xc_InvalidRatio_ha ?xc_InvalidRatio_hm ?xc_Singular_hg ?xc_Singular_hk ?xc_Singular_hs ?xc_Singular_hd ?xc_Singular_ha ?xc_Singular_hm
    (case a0 => k_is)
    (case l0 => k_is)
    (case c0 => k_is)
    (case k0 => k_is)
    (case a1 => k_is)
    (case l1 => k_is)
    (case c1 => k_is)
    (case k1 => k_is)
    (case a2 => k_is)
    (case l2 => k_is)
    (case c2 => k_is)
    (case k2 => k_is)
    (case a3 => k_is)
    (case l3 => k_is)
    (case c3 => k_is)
    (case k3 => k_is)
    (case a4 => k_is)
    (case l4 => k_is)
    (case c4 => k_is)
    (case k4 => k_is)
    (case a5 => k_is)
    (case l5 => k_is)
    (case c5 => k_is)
    (case k5 => k_is)
    (case a6 => k_is)
    (case l6 => k_is)
    (case c6 => k_is)
    (case k6 => k_is)
    (case a7 => k_is)
    (case l7 => k_is)
    (case c7 => k_is)
    (case k7 => k_is)
    (case dv7 => rfl)
    (case dl7 => k_is)
    (case dd7 => rfl)
    (case a8 => k_is)
    (case l8 => k_is)
    (case c8 => k_is)
    (case k8 => k_is)
    (case a9 => k_is)
    (case l9 => k_is)
    (case c9 => k_is)
    (case k9 => k_is)
    (case a10 => k_is)
    (case l10 => k_is)
    (case c10 => k_is)
    (case k10 => k_is)
    (case a11 => k_is)
    (case l11 => k_is)
    (case c11 => k_is)
    (case k11 => k_is)
    (case a12 => k_is)
    (case l12 => k_is)
    (case c12 => k_is)
    (case k12 => k_is)
    (case a13 => k_is)
    (case l13 => k_is)
    (case c13 => k_is)
    (case k13 => k_is)
    (case a14 => k_is)
    (case l14 => k_is)
    (case c14 => k_is)
    (case k14 => k_is)
    (case a15 => k_is)
    (case l15 => k_is)
    (case c15 => k_is)
    (case k15 => k_is)
    (case a16 => k_is)
    (case l16 => k_is)
    (case c16 => k_is)
    (case k16 => k_is)
    (case a17 => k_is)
    (case l17 => k_is)
    (case c17 => k_is)
    (case k17 => k_is)
    (case a18 => k_is)
    (case l18 => k_is)
    (case c18 => k_is)
    (case k18 => k_is)
    (case a19 => k_is)
    (case l19 => k_is)
    (case c19 => k_is)
    (case k19 => k_is)
    (case a20 => k_is)
    (case l20 => k_is)
    (case c20 => k_is)
    (case k20 => k_is)
    (case z_len => k_is)
    (case z_int => k_is)
    (case z_abs => k_is)
    (case z_range => k_is)
    (case z_isinstance => k_is)
    (case z_bool => k_is)
    (case z_zip => k_is)
    (case z_list => k_is)
    (case z_enumerate => k_is)
    (case z_tuple => k_is)
    (case gc_ZERO => k_is)
    (case gl_ZERO => k_is)
    (case gt_ZERO => rfl)
    (case gd_ZERO => rfl)
    (case xa_InvalidRatio => k_is)
    (case xa_Singular => k_is)
    (case xa_PriceError => k_is)
    (case xe_InvalidRatio => k_exc)
    (case xk_InvalidRatio => k_is)
    (case xs_InvalidRatio => k_is)
    (case xt_InvalidRatio => k_is)
    (case xe_Singular => k_exc)
    (case xk_Singular => k_is)
    (case xs_Singular => k_is)
    (case xt_Singular => k_is)
    (case xd_Singular => k_is)
    (case xr_Singular => k_is)
    (case xu_InvalidRatio_Singular => k_is)
    (case xs_PriceError => k_is)
    (case xt_PriceError => k_is)
    (case xd_PriceError => k_is)
    (case xr_PriceError => k_is)
    (case xu_InvalidRatio_PriceError => k_is)
    (case xu_Singular_PriceError => k_is)
    (case xn_ => k_is)
    (case xt_ => k_is)
    (case xc_InvalidRatio_hg => k_is)
    (case xc_InvalidRatio_hk => k_is)
    (case xc_InvalidRatio_hs => k_is)
    (case xc_InvalidRatio_hd => k_is)
    (case xc_InvalidRatio_ha => k_is)
    (case xc_InvalidRatio_hm => k_is)
    (case xc_Singular_hg => k_is)
    (case xc_Singular_hk => k_is)
    (case xc_Singular_hs => k_is)
    (case xc_Singular_hd => k_is)
    (case xc_Singular_ha => k_is)
    (case xc_Singular_hm => k_is)
