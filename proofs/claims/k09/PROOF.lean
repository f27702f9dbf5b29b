import PyProof.Rows.All
import PySem.Challenge.RW_pagerooms_k09_fewest_faults
import Wide.All
import OpenK.AllK
import Wide.FinOn
import HandS.ForMost
import KE.Datum
import HandS.Wide
import HandS.Walk
import HandS.SetFor
import KE.DatumIndex
import KE.DatumMore
import KE.DatumOrd
import KE.SortData
import HandS.Defaults
import HandS.Style
import HandS.Zip
import HandS.SortOrd
import HandS.SortInts
import HandS.IsInst
import HandS.WordsDict
import HandS.SortRule
import HandS.SortKw
import HandS.Conv
import HandS.Iter
import HandS.MakeKwOnly
import HandS.HeadHook4
import KE.GoesEnum
import HandS.Exc
import HandS.ExcOwn
import HandS.ExcInit
import HandS.ExcField
import HandS.ExcCtx
import KE.KExcIs
import KE.KIsAll
import HandS.Lambda
import KE.KMinKey
import HandS.HeadWalk
import KE.DatumMoreOrd
import KE.GoesEnumKw
import HandS.DictComp
import HandS.NoneIn
import HandS.TupLen
import HandS.DictTup
import PyProof.DictMoreH
import PyProof.ReprRoads
import HandS.MakeKw
import HandS.TryMany
import HandS.HotCalls
import HandS.TupAny
import HandS.Small
import KE.GoesZip
import KE.GoesMore
import HandS.TupSets
import HandS.ExcValue
import HandS.Text
import KE.KDictDisplayH
import KE.KDictWalk
import HandS.Head0
import HandS.Head1
import HandS.Head2
import HandS.HeadEnd
import HandS.HeadHook1
import HandS.HeadHook2
set_option Elab.async false
set_option linter.all false
set_option maxRecDepth 100000
set_option maxHeartbeats 0
namespace J
open PySem L2
open PySem.W (Datum)
mutual
inductive Slot : Type 1 where
  | any
  | v (x : V)
  | val {α : Type} [DecidableEq α] [Datum α] (x : α)
  | own (c : Cel)
  | ownA (q : Addr) (c : Cel)
  | say (φ : (Addr → Option HO) → V → Prop)
  | otup (ss : List Slot)
inductive Cel : Type 1 where
  | lst (ss : List Slot)
  | ins (C : Addr) (fs : List (Str × Slot))
  | dk (ks : List Key) (ss : List Slot)
  | fdk (o : Obj) (gs : List (Key × V)) (ss : List Slot)
  | gone
  | say (ψ : (Addr → Option HO) → HO → Prop)
  | ex (f : List Addr → Cel)
end
abbrev Ex (H H' : Hp) : Prop := ∀ a o, H a = some o → H' a = some o
theorem Ex.refl (H : Hp) : Ex H H := fun _ _ h => h
/-- what is said of a value for good -/
def Mono (φ : Hp → V → Prop) : Prop := ∀ G G' u, Ex G G' → φ G u → φ G' u
def MonoC (ψ : Hp → HO → Prop) : Prop := ∀ G G' o, Ex G G' → ψ G o → ψ G' o
theorem Ex.trans {H H1 H2 : Hp} (a : Ex H H1) (b : Ex H1 H2) : Ex H H2 := fun x o h => b x o (a x o h)
mutual
inductive Dq (H : Hp) : V → PyData → Prop where
  | non : Dq H .non .none
  | bl (b : Bool) : Dq H (.bl b) (.bool b)
  | int (i : Int) : Dq H (.int i) (.int i)
  | str (x : Str) : Dq H (.str x) (.str x)
  | lst {a : Addr} {xs : List V} {ds : List PyData} : H a = some (.lst xs) → DqAll H xs ds → Dq H (.ref a) (.list ds)
  | tup {a : Addr} {xs : List V} {ds : List PyData} : H a = some (.tup xs) → DqAll H xs ds → Dq H (.ref a) (.tuple ds)
inductive DqAll (H : Hp) : List V → List PyData → Prop where
  | nil : DqAll H [] []
  | cons {v : V} {vs : List V} {d : PyData} {ds : List PyData} : Dq H v d → DqAll H vs ds → DqAll H (v :: vs) (d :: ds)
end
mutual
theorem dq_mono {H H' : Hp} (e : Ex H H') : ∀ {d : PyData} {v : V}, Dq H v d → Dq H' v d
  | _, _, .non => .non
  | _, _, .bl b => .bl b
  | _, _, .int i => .int i
  | _, _, .str x => .str x
  | _, _, .lst h ha => .lst (e _ _ h) (dqAll_mono e ha)
  | _, _, .tup h ha => .tup (e _ _ h) (dqAll_mono e ha)
theorem dqAll_mono {H H' : Hp} (e : Ex H H') : ∀ {ds : List PyData} {vs : List V}, DqAll H vs ds → DqAll H' vs ds
  | _, _, .nil => .nil
  | _, _, .cons h1 h2 => .cons (dq_mono e h1) (dqAll_mono e h2)
end
mutual
theorem dq_dp {K : PySem.W.Frag} {H : Hp} : ∀ {d : PyData} {v : V}, Dq H v d → Dp K H v d
  | _, _, .non => .non
  | _, _, .bl b => .bl b
  | _, _, .int i => .int i
  | _, _, .str x => .str x
  | _, _, .lst h ha => .lst (.of h) (dqAll_dp ha)
  | _, _, .tup h ha => .tup (.of h) (dqAll_dp ha)
theorem dqAll_dp {K : PySem.W.Frag} {H : Hp} : ∀ {ds : List PyData} {vs : List V}, DqAll H vs ds → DpAll K H vs ds
  | _, _, .nil => .nil
  | _, _, .cons h1 h2 => .cons (dq_dp h1) (dqAll_dp h2)
end
/-- no tuple -/
def NT (o : HO) : Prop := ∀ xs, o ≠ .tup xs
mutual
inductive SlI (G H : Hp) : Slot → V → List Addr → Prop where
  | any {u} : SlI G H .any u []
  | v {u} : SlI G H (.v u) u []
  | val {α : Type} [DecidableEq α] [Datum α] {x : α} {u : V} : Dq G u (Datum.toD x) → SlI G H (.val x) u []
  | own {c : Cel} {p : Addr} {o : HO} {as : List Addr} : H p = some o → CeI G H c o as → SlI G H (.own c) (.ref p) (p :: as)
  | ownA {c : Cel} {q : Addr} {o : HO} {as : List Addr} : H q = some o → CeI G H c o as → SlI G H (.ownA q c) (.ref q) (q :: as)
  | say {φ : Hp → V → Prop} {u : V} : Mono φ → φ G u → SlI G H (.say φ) u []
  | otup {ss : List Slot} {vs : List V} {t : Addr} {as : List Addr} : G t = some (.tup vs) → SsI G H ss vs as → SlI G H (.otup ss) (.ref t) as
inductive CeI (G H : Hp) : Cel → HO → List Addr → Prop where
  | lst {ss : List Slot} {vs : List V} {as : List Addr} : SsI G H ss vs as → CeI G H (.lst ss) (.lst vs) as
  | ins {C dx : Addr} {fs : List (Str × Slot)} {gs : List (Str × V)} {as : List Addr} : fs.map (·.1) = gs.map (·.1) → SsI G H (fs.map (·.2)) (gs.map (·.2)) as → CeI G H (.ins C fs) (.ins C dx gs) as
  | dk {ks : List Key} {ss : List Slot} {gs : List (Key × V)} {as : List Addr} : ks = gs.map (·.1) → SsI G H ss (gs.map (·.2)) as → CeI G H (.dk ks ss) (.dK gs) as
  | fdk {ob : Obj} {ss : List Slot} {gs : List (Key × V)} {as : List Addr} : SsI G H ss (gs.map (·.2)) as → CeI G H (.fdk ob gs ss) (.frz ob (.dK gs)) as
  | say {ψ : Hp → HO → Prop} {o : HO} : MonoC ψ → ψ G o → NT o → CeI G H (.say ψ) o []
  | ex {f : List Addr → Cel} {qs : List Addr} {o : HO} {as : List Addr} : CeI G H (f qs) o as → CeI G H (.ex f) o as
inductive SsI (G H : Hp) : List Slot → List V → List Addr → Prop where
  | nil : SsI G H [] [] []
  | cons {s : Slot} {u : V} {as : List Addr} {ss : List Slot} {vs : List V} {bs : List Addr} : SlI G H s u as → SsI G H ss vs bs → SsI G H (s :: ss) (u :: vs) (as ++ bs)
end
section
variable {G G' H H' : Hp}
mutual
theorem SlI.mono : ∀ {s : Slot} {u : V} {as : List Addr}, SlI G H s u as → Ex G G' → (∀ a ∈ as, H' a = H a) → SlI G' H' s u as
  | _, _, _, .any, _, _ => .any
  | _, _, _, .v, _, _ => .v
  | _, _, _, @SlI.val _ _ α i1 i2 x u h, e, _ => @SlI.val _ _ α i1 i2 x u (dq_mono e h)
  | _, _, _, .say m h, e, _ => .say m (m _ _ _ e h)
  | _, _, _, .otup ht h, e, f => .otup (e _ _ ht) (SsI.mono h e f)
  | _, _, _, .own hp hc, e, f => .own ((f _ List.mem_cons_self).trans hp) (CeI.mono hc e fun a ha => f a (List.mem_cons_of_mem _ ha))
  | _, _, _, .ownA hp hc, e, f => .ownA ((f _ List.mem_cons_self).trans hp) (CeI.mono hc e fun a ha => f a (List.mem_cons_of_mem _ ha))
theorem CeI.mono : ∀ {c : Cel} {o : HO} {as : List Addr}, CeI G H c o as → Ex G G' → (∀ a ∈ as, H' a = H a) → CeI G' H' c o as
  | _, _, _, .lst h, e, f => .lst (SsI.mono h e f)
  | _, _, _, .ins h1 h2, e, f => .ins h1 (SsI.mono h2 e f)
  | _, _, _, .dk h1 h2, e, f => .dk h1 (SsI.mono h2 e f)
  | _, _, _, .fdk h2, e, f => .fdk (SsI.mono h2 e f)
  | _, _, _, .say m h n, e, _ => .say m (m _ _ _ e h) n
  | _, _, _, .ex h, e, f => .ex (CeI.mono h e f)
theorem SsI.mono : ∀ {ss : List Slot} {vs : List V} {as : List Addr}, SsI G H ss vs as → Ex G G' → (∀ a ∈ as, H' a = H a) → SsI G' H' ss vs as
  | _, _, _, .nil, _, _ => .nil
  | _, _, _, .cons h1 h2, e, f => .cons (SlI.mono h1 e fun a ha => f a (List.mem_append_left _ ha)) (SsI.mono h2 e fun a ha => f a (List.mem_append_right _ ha))
end
theorem SsI.len : ∀ {ss : List Slot} {vs : List V} {as : List Addr}, SsI G H ss vs as → ss.length = vs.length
  | _, _, _, .nil => rfl
  | _, _, _, .cons _ h => congrArg Nat.succ (SsI.len h)
theorem SsI.app : ∀ {ss : List Slot} {vs : List V} {as : List Addr} {tt : List Slot} {us : List V} {bs : List Addr}, SsI G H ss vs as → SsI G H tt us bs → SsI G H (ss ++ tt) (vs ++ us) (as ++ bs)
  | _, _, _, _, _, _, .nil, h => h
  | _, _, _, _, _, _, .cons (as := as) (bs := bs) h1 h2, h => by
    rw [List.append_assoc]
    exact .cons h1 (SsI.app h2 h)
theorem SsI.split : ∀ {ss : List Slot} {vs : List V} {tt : List Slot} {us : List V} {cs : List Addr}, ss.length = vs.length → SsI G H (ss ++ tt) (vs ++ us) cs → ∃ as bs, cs = as ++ bs ∧ SsI G H ss vs as ∧ SsI G H tt us bs
  | [], [], _, _, cs, _, h => ⟨[], cs, rfl, .nil, h⟩
  | [], _ :: _, _, _, _, e, _ => nomatch e
  | _ :: _, [], _, _, _, e, _ => nomatch e
  | s :: ss, v :: vs, tt, us, _, e, .cons (as := a1) h1 h2 => by
    obtain ⟨as, bs, rfl, h3, h4⟩ := SsI.split (Nat.succ.inj e) h2
    exact ⟨a1 ++ as, bs, (List.append_assoc ..).symm, .cons h1 h3, h4⟩
inductive CsI (G H : Hp) : List (Addr × Cel) → List Addr → Prop where
  | nil : CsI G H [] []
  | gone {p : Addr} {cs : List (Addr × Cel)} {bs : List Addr} : CsI G H cs bs → CsI G H ((p, .gone) :: cs) bs
  | cons {p : Addr} {c : Cel} {o : HO} {as : List Addr} {cs : List (Addr × Cel)} {bs : List Addr} : H p = some o → CeI G H c o as → CsI G H cs bs → CsI G H ((p, c) :: cs) (p :: (as ++ bs))
theorem CsI.mono : ∀ {cs : List (Addr × Cel)} {bs : List Addr}, CsI G H cs bs → Ex G G' → (∀ a ∈ bs, H' a = H a) → CsI G' H' cs bs
  | _, _, .nil, _, _ => .nil
  | _, _, .gone h, e, f => .gone (CsI.mono h e f)
  | _, _, .cons hp hc h, e, f => .cons ((f _ List.mem_cons_self).trans hp) (hc.mono e fun a ha => f a (List.mem_cons_of_mem _ (List.mem_append_left _ ha))) (CsI.mono h e fun a ha => f a (List.mem_cons_of_mem _ (List.mem_append_right _ ha)))
theorem CsI.app : ∀ {cs ds : List (Addr × Cel)} {as bs : List Addr}, CsI G H cs as → CsI G H ds bs → CsI G H (cs ++ ds) (as ++ bs)
  | _, _, _, _, .nil, h => h
  | _, _, _, _, .gone h1, h => .gone (CsI.app h1 h)
  | _, _, _, _, .cons hp hc h1, h => by
    rw [List.cons_append, List.cons_append, List.append_assoc]
    exact .cons hp hc (CsI.app h1 h)
/-- the k-th cell, and the rest, that may be put together with another one -/
theorem CsI.at : ∀ {cs : List (Addr × Cel)} {bs : List Addr} (k : Nat) {p : Addr} {c : Cel}, CsI G H cs bs → cs[k]? = some (p, c) → c ≠ .gone →
    ∃ l o m r, bs = l ++ (p :: m) ++ r ∧ H p = some o ∧ CeI G H c o m ∧
      ∀ {G' H' : Hp}, Ex G G' → (∀ a ∈ l ++ r, H' a = H a) →
        (∀ {q : Addr} {c' : Cel} {o' : HO} {m' : List Addr}, H' q = some o' → CeI G' H' c' o' m' → CsI G' H' (cs.set k (q, c')) (l ++ (q :: m') ++ r)) ∧ ∀ q, CsI G' H' (cs.set k (q, .gone)) (l ++ r)
  | [], _, _, _, _, _, e, _ => by simp at e
  | _ :: cs, bs, 0, p, c, h, e, hg => by
    have e1 := Option.some.inj (show some _ = some (p, c) from e)
    cases h with
    | gone h => cases e1; exact absurd rfl hg
    | @cons p' c' o as _ bs hp hc h =>
      cases e1
      refine ⟨[], o, as, bs, rfl, hp, hc, fun eg f => ⟨fun hq hc' => ?_, fun q => ?_⟩⟩
      · exact .cons hq hc' (h.mono eg f)
      · exact .gone (h.mono eg f)
  | (p0, c0) :: cs, bs, k + 1, p, c, h, e, hg => by
    have e1 : cs[k]? = some (p, c) := e
    cases h with
    | gone h =>
      obtain ⟨l, o, m, r, rfl, hp, hc, f⟩ := CsI.at k h e1 hg
      exact ⟨l, o, m, r, rfl, hp, hc, fun eg g => ⟨fun hq hc' => .gone ((f eg g).1 hq hc'), fun q => .gone ((f eg g).2 q)⟩⟩
    | @cons _ _ o1 as _ bs hp1 hc1 h =>
      obtain ⟨l, o, m, r, rfl, hp, hc, f⟩ := CsI.at k h e1 hg
      refine ⟨p0 :: (as ++ l), o, m, r, ?_, hp, hc, fun {G' H'} eg g => ?_⟩
      · simp only [List.cons_append, List.append_assoc]
      · have g1 : ∀ a ∈ p0 :: as, H' a = H a := fun a ha => g a (by
          rcases List.mem_cons.mp ha with rfl | ha
          · exact List.mem_append_left _ List.mem_cons_self
          · exact List.mem_append_left _ (List.mem_cons_of_mem _ (List.mem_append_left _ ha)))
        have g2 : ∀ a ∈ l ++ r, H' a = H a := fun a ha => g a (by
          rcases List.mem_append.mp ha with ha | ha
          · exact List.mem_append_left _ (List.mem_cons_of_mem _ (List.mem_append_right _ ha))
          · exact List.mem_append_right _ ha)
        have k1 : H' p0 = some o1 := (g1 p0 List.mem_cons_self).trans hp1
        have k2 := hc1.mono eg fun a ha => g1 a (List.mem_cons_of_mem _ ha)
        refine ⟨fun {q c' o' m'} hq hc' => ?_, fun q => ?_⟩
        · have := CsI.cons k1 k2 ((f eg g2).1 hq hc')
          simpa only [List.cons_append, List.append_assoc, List.set_cons_succ] using this
        · have := CsI.cons k1 k2 ((f eg g2).2 q)
          simpa only [List.cons_append, List.append_assoc, List.set_cons_succ] using this
def SlOk (G : Hp) : Slot → Option V → Prop
  | .any, _ => True
  | .v x, o => o = some x
  | @Slot.val _ _ _ x, o => ∃ u, o = some u ∧ Dq G u (Datum.toD x)
  | .own _, _ => False
  | .ownA _ _, _ => False
  | .otup _, _ => False
  | .say φ, o => ∃ u, o = some u ∧ Mono φ ∧ φ G u
theorem SlOk.mono {s : Slot} {o : Option V} (h : SlOk G s o) (e : Ex G G') : SlOk G' s o := by
  cases s with
  | any => trivial
  | v x => exact h
  | val x => obtain ⟨u, h1, h2⟩ := h; exact ⟨u, h1, dq_mono e h2⟩
  | own c => exact h
  | ownA _ c => exact h
  | otup _ => exact h
  | say φ => obtain ⟨u, h1, m, h2⟩ := h; exact ⟨u, h1, m, m _ _ _ e h2⟩
def SgI (G : Hp) (sl : List Slot) (σ : St) : Prop := sl.length = σ.length ∧ ∀ (i : Nat) s, sl[i]? = some s → ∃ o, σ[i]? = some o ∧ SlOk G s o
theorem SgI.mono {sl : List Slot} {σ : St} (h : SgI G sl σ) (e : Ex G G') : SgI G' sl σ := ⟨h.1, fun i s hs => let ⟨o, h1, h2⟩ := h.2 i s hs; ⟨o, h1, h2.mono e⟩⟩
theorem SgI.set {sl : List Slot} {σ : St} (h : SgI G sl σ) (i : Nat) {s : Slot} {u : V} (hs : SlOk G s (some u)) : SgI G (sl.set i s) (σ.set i (some u)) := by
  refine ⟨by rw [List.length_set, List.length_set, h.1], fun j s' hj => ?_⟩
  by_cases e : i = j
  · subst e
    have hl : i < sl.length := by
      have := (List.getElem?_eq_some_iff.mp hj).1
      rwa [List.length_set] at this
    rw [List.getElem?_set_self hl] at hj
    cases hj
    exact ⟨some u, by rw [List.getElem?_set_self (h.1 ▸ hl)], hs⟩
  · rw [List.getElem?_set_ne e] at hj
    obtain ⟨o, h1, h2⟩ := h.2 j s' hj
    exact ⟨o, by rw [List.getElem?_set_ne e]; exact h1, h2⟩
end
/-- what holds ahead of a def: G what is said for good, F what is to stay -/
structure Base where
  G : Hp
  F : Hp
structure Stt : Type 1 where
  sl : List Slot
  cs : List (Addr × Cel)
structure St0 (B : Base) (S : Stt) (T : List Slot) (σ : St) (tv : List V) (H G : Hp) (as bs : List Addr) : Prop where
  tmp : SsI G H T tv as
  cel : CsI G H S.cs bs
  slo : SgI G S.sl σ
  nod : (as ++ bs).Nodup
  fre : ∀ a ∈ as ++ bs, G a = none ∧ B.F a = none
  gro : Ex B.G G
  new : ∀ a o, G a = some o → B.G a = some o ∨ B.F a = none ∨ ∃ xs, o = .tup xs
  sub : Ex G H
  frm : Ex B.F H
def Sta (B : Base) (S : Stt) (T : List Slot) (σ : St) (tv : List V) (H : Hp) : Prop := ∃ G as bs, St0 B S T σ tv H G as bs
def Slot.plain : Slot → Bool
  | .own _ => false
  | .ownA _ _ => false
  | .otup _ => false
  | _ => true
/-- something is known, and nothing is owned -/
def Slot.there : Slot → Bool
  | .own _ => false
  | .ownA _ _ => false
  | .otup _ => false
  | .any => false
  | _ => true
section
variable {B : Base} {S : Stt} {T : List Slot} {σ : St} {tv : List V} {H G : Hp} {x y : Slot} {v u : V}
theorem SlI.ok {as : List Addr} (h : SlI G H x v as) (hp : x.plain = true) : SlOk G x (some v) := by
  cases h with
  | any => trivial
  | v => rfl
  | val h => exact ⟨_, rfl, h⟩
  | own _ _ => cases hp
  | ownA _ _ => cases hp
  | otup _ _ => cases hp
  | say m h => exact ⟨_, rfl, m, h⟩
theorem SlI.nil {as : List Addr} (h : SlI G H x v as) (hp : x.plain = true) : as = [] := by
  cases h with
  | any => rfl
  | v => rfl
  | val h => rfl
  | own _ _ => cases hp
  | ownA _ _ => cases hp
  | otup _ _ => cases hp
  | say m h => rfl
theorem SlOk.sl (h : SlOk G x (some v)) : SlI G H x v [] := by
  cases x with
  | any => exact .any
  | v w => cases h; exact .v
  | val z => obtain ⟨_, e, h⟩ := h; cases e; exact .val h
  | own c => cases h
  | ownA _ c => cases h
  | otup _ => cases h
  | say φ => obtain ⟨_, e, m, h⟩ := h; cases e; exact .say m h
theorem Sta.top (h : Sta B S (x :: T) σ (v :: tv) H) : ∃ G as, SlI G H x v as ∧ Ex G H := by
  obtain ⟨G, as, bs, z⟩ := h
  cases z.tmp with
  | cons h1 h2 => exact ⟨G, _, h1, z.sub⟩
theorem Sta.drop (h : Sta B S (x :: T) σ (v :: tv) H) : Sta B S T σ tv H := by
  obtain ⟨G, as, bs, z⟩ := h
  obtain ⟨z1, z2, z3, z4, z5, z6, z7, z8, z9⟩ := z
  cases z1 with
  | @cons _ _ a1 _ _ a2 h1 h2 =>
    refine ⟨G, a2, bs, h2, z2, z3, ?_, fun a ha => z5 a ?_, z6, z7, z8, z9⟩
    · rw [List.append_assoc] at z4
      exact (List.nodup_append.mp z4).2.1
    · rw [List.append_assoc]
      exact List.mem_append_right _ ha
/-- a value that owns nothing is laid on top -/
theorem Sta.push (h : Sta B S T σ tv H) (hz : ∀ G, Ex G H → SlI G H x v []) : Sta B S (x :: T) σ (v :: tv) H := by
  obtain ⟨G, as, bs, z⟩ := h
  exact ⟨G, [] ++ as, bs, .cons (hz G z.sub) z.tmp, z.cel, z.slo, z.nod, z.fre, z.gro, z.new, z.sub, z.frm⟩
theorem Sta.get {i : Nat} {s : Slot} (h : Sta B S T σ tv H) (hs : S.sl[i]? = some s) (hn : s.there = true) : ∃ v, σ[i]? = some (some v) ∧ Sta B S (s :: T) σ (v :: tv) H := by
  obtain ⟨G, as, bs, z⟩ := h
  obtain ⟨o, h1, h2⟩ := z.slo.2 i s hs
  have : ∃ v, o = some v := by
    cases s with
    | any => cases hn
    | v w => exact ⟨w, h2⟩
    | val z => obtain ⟨u, e, _⟩ := h2; exact ⟨u, e⟩
    | own c => cases hn
    | ownA _ c => cases hn
    | otup _ => cases hn
    | say φ => obtain ⟨u, e, _⟩ := h2; exact ⟨u, e⟩
  obtain ⟨v, rfl⟩ := this
  exact ⟨v, h1, G, [] ++ as, bs, .cons h2.sl z.tmp, z.cel, z.slo, z.nod, z.fre, z.gro, z.new, z.sub, z.frm⟩
theorem Sta.set (h : Sta B S (x :: T) σ (v :: tv) H) (hp : x.plain = true) (i : Nat) : Sta B ⟨S.sl.set i x, S.cs⟩ T (σ.set i (some v)) tv H := by
  obtain ⟨G, as, bs, z⟩ := h
  obtain ⟨z1, z2, z3, z4, z5, z6, z7, z8, z9⟩ := z
  cases z1 with
  | @cons _ _ a1 _ _ a2 h1 h2 =>
    have e := h1.nil hp
    subst e
    exact ⟨G, a2, bs, h2, z2, z3.set i (h1.ok hp), z4, z5, z6, z7, z8, z9⟩
/-- an owned thing gets a name -/
theorem Sta.name {c : Cel} (h : Sta B S (.own c :: T) σ (v :: tv) H) : ∃ p, v = .ref p ∧ Sta B ⟨S.sl, S.cs ++ [(p, c)]⟩ (.v (.ref p) :: T) σ (.ref p :: tv) H := by
  obtain ⟨G, as, bs, z⟩ := h
  obtain ⟨z1, z2, z3, z4, z5, z6, z7, z8, z9⟩ := z
  cases z1 with
  | @cons _ _ a1 _ _ a2 h1 h2 =>
    cases h1 with
    | @own _ p o m hp hc =>
      have pm : (([] ++ a2) ++ (bs ++ (p :: (m ++ [])))).Perm ((p :: m) ++ a2 ++ bs) := by
        simp only [List.nil_append, List.append_nil]
        have e1 : (a2 ++ (bs ++ (p :: m))).Perm ((a2 ++ bs) ++ (p :: m)) := by rw [List.append_assoc]
        have e2 : ((a2 ++ bs) ++ (p :: m)).Perm ((p :: m) ++ (a2 ++ bs)) := List.perm_append_comm
        have e3 : ((p :: m) ++ (a2 ++ bs)).Perm ((p :: m) ++ a2 ++ bs) := by rw [List.append_assoc]
        exact e1.trans (e2.trans e3)
      exact ⟨p, rfl, G, [] ++ a2, bs ++ (p :: (m ++ [])), .cons .v h2, z2.app (.cons hp hc .nil), z3, pm.nodup_iff.mpr z4, fun a ha => z5 a (pm.mem_iff.mp ha), z6, z7, z8, z9⟩
end
section
variable (X : Cx)
structure teOf (e : Expr) (σ : St) (H : Hp) (Q : VK) : Prop where
  run : ∀ pins s, Inv X pins σ H s → wpAny (model X.prog X.w) X.A (eval e X.env) (EP X pins σ Q) X.xe s
structure ttOf (e : Expr) (σ : St) (H : Hp) (Q : Bool → Hp → Prop) : Prop where
  run : ∀ pins s, Inv X pins σ H s → wpAny (model X.prog X.w) X.A (isTrue e X.env (eval e X.env)) (TP X pins σ Q) X.xe s
structure twOf (e : Expr) (σ : St) (H : Hp) (Q : Bool → Hp → Prop) : Prop where
  run : ∀ whole pins s, Inv X pins σ H s → wpAny (model X.prog X.w) X.A (isTrue e X.env whole) (TP X pins σ Q) X.xe s
structure taOf (es : List Expr) (σ : St) (H : Hp) (Q : List V → Hp → Prop) : Prop where
  run : ∀ pos pins s, Inv X pins σ H s → wpAny (model X.prog X.w) X.A (spliced (backTo pos (starEach es X.env))) (AP X pins σ Q) X.xe s
structure tbOf (st : List Stmt) (D : Ends) (σ : St) (H : Hp) : Prop where
  run : ∀ pins s, Inv X pins σ H s → wpAny (model X.prog X.w) X.A (execs st X.env) (SP X pins D) X.xe s
end
section
variable {X : Cx}
theorem pe0 {e : Expr} : PE X e (teOf X e) := ⟨fun pins s _ _ _ I h => h.run pins s I⟩
theorem pt0 {e : Expr} : PT X e (ttOf X e) := ⟨fun pins s _ _ _ I h => h.run pins s I⟩
theorem pw0 {e : Expr} : PW X e (twOf X e) := ⟨fun wh pins s _ _ _ I h => h.run wh pins s I⟩
theorem pa0 {es : List Expr} : PA X es (taOf X es) := ⟨fun pos pins s _ _ _ I h => h.run pos pins s I⟩
theorem pb0 {st : List Stmt} : PSs X st (tbOf X st) := ⟨fun pins s _ _ _ I h => h.run pins s I⟩
theorem pe1 {e : Expr} {t : TE} (h : PE X e t) {σ : St} {H : Hp} {Q : VK} (q : t σ H Q) : teOf X e σ H Q := ⟨fun pins s I => h.run pins s σ H Q I q⟩
theorem pt1 {e : Expr} {t : TT} (h : PT X e t) {σ : St} {H : Hp} {Q : Bool → Hp → Prop} (q : t σ H Q) : ttOf X e σ H Q := ⟨fun pins s I => h.run pins s σ H Q I q⟩
theorem pw1 {e : Expr} {t : TT} (h : PW X e t) {σ : St} {H : Hp} {Q : Bool → Hp → Prop} (q : t σ H Q) : twOf X e σ H Q := ⟨fun wh pins s I => h.run wh pins s σ H Q I q⟩
theorem pa1 {es : List Expr} {t : TA} (h : PA X es t) {σ : St} {H : Hp} {Q : List V → Hp → Prop} (q : t σ H Q) : taOf X es σ H Q := ⟨fun pos pins s I => h.run pos pins s σ H Q I q⟩
theorem pb1 {st : List Stmt} {t : TS} (h : PSs X st t) {σ : St} {H : Hp} {D : Ends} (q : t D σ H) : tbOf X st D σ H := ⟨fun pins s I => h.run pins s σ H D I q⟩
end
abbrev FK := List Slot → List V → St → Hp → Prop
structure FE : Type 1 where
  nx : FK
  rt : V → Hp → Prop
  bk : FK := fun _ _ _ _ => False
  ct : FK := fun _ _ _ _ => False
abbrev FE.at (D : FE) (T : List Slot) (tv : List V) : Ends := ⟨D.nx T tv, D.rt, D.bk T tv, D.ct T tv⟩
section
variable (X : Cx) (B : Base)
def JE (S : Stt) (e : Expr) (S' : Stt) (x : Slot) : Prop := ∀ T tv σ H Q, Sta B S T σ tv H → (∀ v H', Sta B S' (x :: T) σ (v :: tv) H' → Q v H') → teOf X e σ H Q
def JT (S : Stt) (e : Expr) (S' : Stt) (b : Bool) : Prop := ∀ T tv σ H Q, Sta B S T σ tv H → (∀ H', Sta B S' T σ tv H' → Q b H') → ttOf X e σ H Q
def JW (S : Stt) (e : Expr) (S' : Stt) (b : Bool) : Prop := ∀ T tv σ H Q, Sta B S T σ tv H → (∀ H', Sta B S' T σ tv H' → Q b H') → twOf X e σ H Q
/-- arguments: from the left; they lie in their order -/
def JA (S : Stt) (es : List Expr) (S' : Stt) (xs : List Slot) : Prop := ∀ T tv σ H Q, Sta B S T σ tv H → (∀ vs H', vs.length = xs.length → Sta B S' (xs ++ T) σ (vs ++ tv) H' → Q vs H') → taOf X es σ H Q
def JS (S : Stt) (st : List Stmt) (D : FE) : Prop := ∀ T tv σ H, Sta B S T σ tv H → tbOf X st (D.at T tv) σ H
def FE.seq (D : FE) (rest : List Stmt) : FE := { D with nx := fun T tv σ H => tbOf X rest (D.at T tv) σ H }
end
end J
namespace J
open PySem L2
open PySem.W (Datum)
section
variable {X : Cx} {B : Base} {S S1 S2 S3 : Stt} {x y z : Slot} {a b e : Expr} {es : List Expr} {pos : Pos}
theorem je_var (i : Nat) {n : Str} {s : Slot} (hs : S.sl[i]? = some s) (hn : s.there = true := by rfl) (hN : X.N[i]? = some n := by rfl)
    (hv : Vis X.env.scope n := by first | exact Or.inl rfl | exact Or.inr (Or.inl rfl) | exact Or.inr (Or.inr rfl)) (hd : (n == ("__debug__" : Str)) = false := by decide) (hcd : (n == ("__classdict__" : Str)) = false := by decide) : JE X B S (.Name n pos) S s := by
  intro T tv σ H Q h q
  obtain ⟨v, h1, h2⟩ := h.get hs hn
  exact pe1 (pe_var hN hv hd hcd) ⟨v, h1, q v H h2⟩
theorem je_int {i : Int} {j : Nat} : JE X B S (.Constant (.int i) j pos) S (.val i) := fun T tv σ H Q h q => pe1 pe_int (q _ _ (h.push fun _ _ => .val (.int i)))
theorem je_bl {k : Bool} {j : Nat} : JE X B S (.Constant (.bool k) j pos) S (.val k) := fun T tv σ H Q h q => pe1 pe_bl (q _ _ (h.push fun _ _ => .val (.bl k)))
theorem je_str {k : Str} {j : Nat} : JE X B S (.Constant (.str k) j pos) S (.val k) := fun T tv σ H Q h q => pe1 pe_str (q _ _ (h.push fun _ _ => .val (.str k)))
theorem je_non {j : Nat} : JE X B S (.Constant .none j pos) S (.v .non) := fun T tv σ H Q h q => pe1 pe_non (q _ _ (h.push fun _ _ => .v))
/-- the same value, said otherwise -/
theorem je_as (h : JE X B S e S1 x) (k : ∀ {G H u as}, SlI G H x u as → SlI G H y u as) : JE X B S e S1 y := by
  intro T tv σ H Q hs q
  refine h T tv σ H Q hs fun v H' g => q v H' ?_
  obtain ⟨G, as, bs, z1, z2, z3, z4, z5, z6, z7, z8, z9⟩ := g
  cases z1 with
  | cons h1 h2 => exact ⟨G, _, bs, .cons (k h1) h2, z2, z3, z4, z5, z6, z7, z8, z9⟩
theorem jt_eq {p q : Bool} (h : JT X B S e S1 p) (k : p = q) : JT X B S e S1 q := k ▸ h
def O2 (X : Cx) (B : Base) (r : R2) (S : Stt) (x y : Slot) (S' : Stt) (z : Slot) : Prop := ∀ T tv σ v u H Q, Sta B S (y :: x :: T) σ (u :: v :: tv) H → (∀ w H', Sta B S' (z :: T) σ (w :: tv) H' → Q w H') → r v u H Q
def O1 (X : Cx) (B : Base) (r : V → Hp → VK → Prop) (S : Stt) (x : Slot) (S' : Stt) (z : Slot) : Prop := ∀ T tv σ v H Q, Sta B S (x :: T) σ (v :: tv) H → (∀ w H', Sta B S' (z :: T) σ (w :: tv) H' → Q w H') → r v H Q
theorem je_op {op : Operator} {r : R2} (ho : OpR X (binaryOp op) r) (ha : JE X B S a S1 x) (hb : JE X B S1 b S2 y) (hr : O2 X B r S2 x y S3 z) : JE X B S (.BinOp a op b pos) S3 z := by
  intro T tv σ H Q h q
  refine pe1 (pe_op ho pe0 pe0) (ha _ _ _ _ _ h fun v H1 h1 => hb _ _ _ _ _ h1 fun u H2 h2 => hr _ _ _ _ _ _ _ h2 q)
theorem je_un {op : UnaryOp} {r : V → Hp → VK → Prop} (ho : UnR X (unaryOp op) r) (ha : JE X B S a S1 x) (hr : O1 X B r S1 x S2 z) : JE X B S (.UnaryOp op a pos) S2 z := by
  intro T tv σ H Q h q
  refine pe1 (pe_un ho pe0) (ha _ _ _ _ _ h fun v H1 h1 => hr _ _ _ _ _ _ h1 q)
theorem je_cmp {op : CmpOp} {r : R2} (ho : OpR X (compareOp op) r) (ha : JE X B S a S1 x) (hb : JE X B S1 b S2 y) (hr : O2 X B r S2 x y S3 z) (hm : behindInMarks op b = false) : JE X B S (.Compare a [op] [b] pos) S3 z := by
  intro T tv σ H Q h q
  refine pe1 (pe_cmpR ho pe0 pe0 hm) (ha _ _ _ _ _ h fun v H1 h1 => hb _ _ _ _ _ h1 fun u H2 h2 => hr _ _ _ _ _ _ _ h2 q)
theorem Sta.bool {T : List Slot} {σ : St} {tv : List V} {H : Hp} {v : V} {k : Bool} (h : Sta B S (.val k :: T) σ (v :: tv) H) : v = .bl k := by
  obtain ⟨G, as, h1, _⟩ := h.top
  cases h1 with
  | val h => cases (show Dq G v (.bool k) from h); rfl
theorem Sta.int {T : List Slot} {σ : St} {tv : List V} {H : Hp} {v : V} {k : Int} (h : Sta B S (.val k :: T) σ (v :: tv) H) : v = .int k := by
  obtain ⟨G, as, h1, _⟩ := h.top
  cases h1 with
  | val h => cases (show Dq G v (.int k) from h); rfl
theorem Sta.str {T : List Slot} {σ : St} {tv : List V} {H : Hp} {v : V} {k : Str} (h : Sta B S (.val k :: T) σ (v :: tv) H) : v = .str k := by
  obtain ⟨G, as, h1, _⟩ := h.top
  cases h1 with
  | val h => cases (show Dq G v (.str k) from h); rfl
theorem Sta.exact {T : List Slot} {σ : St} {tv : List V} {H : Hp} {v w : V} (h : Sta B S (.v w :: T) σ (v :: tv) H) : v = w := by
  obtain ⟨G, as, h1, _⟩ := h.top
  cases h1 with
  | v => rfl
theorem jt_cmp {op : CmpOp} {r : R2} {k : Bool} (ho : OpR X (compareOp op) r) (ha : JE X B S a S1 x) (hb : JE X B S1 b S2 y) (hr : O2 X B r S2 x y S3 (.val k)) (hm : behindInMarks op b = false) : JT X B S (.Compare a [op] [b] pos) S3 k := by
  intro T tv σ H Q h q
  refine pt1 (pt_cmpR ho pe0 pe0 hm) (ha _ _ _ _ _ h fun v H1 h1 => hb _ _ _ _ _ h1 fun u H2 h2 => hr _ _ _ _ _ _ _ h2 fun w H3 h3 => ?_)
  have e := h3.bool
  subst e
  exact ⟨k, rfl, q _ h3.drop⟩
theorem o2_i0 {g : Int → Int → V} {i j : Int} {z : Slot} (hz : ∀ G H, SlI G H z (g i j) []) : O2 X B (rI0 g) S (.val i) (.val j) S z := by
  intro T tv σ v u H Q h q
  have e1 := h.int
  have e2 := h.drop.int
  subst e1 e2
  exact ⟨i, j, rfl, rfl, q _ _ (h.drop.drop.push fun G _ => hz G H)⟩
theorem o2_i {C : Int → Int → Prop} {g : Int → Int → V} {i j : Int} {z : Slot} (hc : C i j) (hz : ∀ G H, SlI G H z (g i j) []) : O2 X B (rI C g) S (.val i) (.val j) S z := by
  intro T tv σ v u H Q h q
  have e1 := h.int
  have e2 := h.drop.int
  subst e1 e2
  exact ⟨i, j, rfl, rfl, hc, q _ _ (h.drop.drop.push fun G _ => hz G H)⟩
theorem sl_int {G H : Hp} (i : Int) : SlI G H (.val i) (.int i) [] := .val (.int i)
theorem sl_bl {G H : Hp} (k : Bool) : SlI G H (.val k) (.bl k) [] := .val (.bl k)
variable {i j : Int}
theorem je_add (ha : JE X B S a S1 (.val i)) (hb : JE X B S1 b S2 (.val j)) : JE X B S (.BinOp a .Add b pos) S2 (.val (i + j)) := je_op op_add ha hb (o2_i0 fun _ _ => sl_int _)
theorem je_sub (ha : JE X B S a S1 (.val i)) (hb : JE X B S1 b S2 (.val j)) : JE X B S (.BinOp a .Sub b pos) S2 (.val (i - j)) := je_op op_sub ha hb (o2_i0 fun _ _ => sl_int _)
theorem je_mul (ha : JE X B S a S1 (.val i)) (hb : JE X B S1 b S2 (.val j)) (hc : CMul i j) : JE X B S (.BinOp a .Mult b pos) S2 (.val (i * j)) := je_op op_mul ha hb (o2_i hc fun _ _ => sl_int _)
theorem je_div (ha : JE X B S a S1 (.val i)) (hb : JE X B S1 b S2 (.val j)) (hc : 0 < j ∧ j < 18446744073709551616) : JE X B S (.BinOp a .FloorDiv b pos) S2 (.val (i / j)) :=
  je_op op_fdivW ha hb (o2_i (wide_div (b := 64) hc.1 (by have := hc.1; have := hc.2; omega) (by decide) (by decide)) fun _ _ => sl_int _)
theorem je_mod (ha : JE X B S a S1 (.val i)) (hb : JE X B S1 b S2 (.val j)) (hc : 0 < j) : JE X B S (.BinOp a .Mod b pos) S2 (.val (i % j)) := je_op op_mod ha hb (o2_i hc fun _ _ => sl_int _)
theorem je_pow {n : Nat} (ha : JE X B S a S1 (.val i)) (hb : JE X B S1 b S2 (.val (n : Int))) (hn : n ≤ 1000000) (hc : i.natAbs < 18446744073709551616) : JE X B S (.BinOp a .Pow b pos) S2 (.val (i ^ n)) :=
  je_op op_pow ha hb (o2_i ⟨Int.natCast_nonneg _, by omega, hc⟩ fun _ _ => sl_int _)
theorem je_neg (ha : JE X B S a S1 (.val i)) : JE X B S (.UnaryOp .USub a pos) S1 (.val (-i)) := je_un un_neg ha fun T tv σ v H Q h q => by
  have e := h.int
  subst e
  exact ⟨i, rfl, q _ _ (h.drop.push fun _ _ => sl_int _)⟩
section
variable {op : CmpOp}
theorem jt_lt (ha : JE X B S a S1 (.val i)) (hb : JE X B S1 b S2 (.val j)) : JT X B S (.Compare a [.Lt] [b] pos) S2 (decide (i < j)) := jt_cmp op_lt ha hb (o2_i0 fun _ _ => sl_bl _) (nomark _)
theorem jt_ge (ha : JE X B S a S1 (.val i)) (hb : JE X B S1 b S2 (.val j)) : JT X B S (.Compare a [.GtE] [b] pos) S2 (decide (j ≤ i)) := jt_cmp op_ge ha hb (o2_i0 fun _ _ => sl_bl _) (nomark _)
end
section
variable {p q : Bool} {rest : List Expr}
theorem jt_bl (h : JE X B S e S1 (.val p)) (he : ∀ whole, isTrue e X.env whole = (do let v ← whole; standAt e.pos; holding [v] (truthy v)) := by intro _; rfl) : JT X B S e S1 p := by
  intro T tv σ H Q hs k
  refine pt1 (pt_val pe0 he) (h _ _ _ _ _ hs fun v H1 h1 => ?_)
  have e := h1.bool
  subst e
  exact ⟨p, rfl, k _ h1.drop⟩
theorem jw_and1 (h : JT X B S a S1 p) : JW X B S (.BoolOp .And [a] pos) S1 p := fun T tv σ H Q hs k => pw1 (pw_and1 pt0) (h _ _ _ _ _ hs k)
theorem jw_or1 (h : JT X B S a S1 p) : JW X B S (.BoolOp .Or [a] pos) S1 p := fun T tv σ H Q hs k => pw1 (pw_or1 pt0) (h _ _ _ _ _ hs k)
/-- the second one is asked where the first one is true; it leaves the state (pure), or the state is one for both -/
theorem jw_and (h : JT X B S a S1 p) (h2 : p = true → JW X B S1 (.BoolOp .And (b :: rest) pos) S1 q) : JW X B S (.BoolOp .And (a :: b :: rest) pos) S1 (p && q) := by
  intro T tv σ H Q hs k
  refine pw1 (pw_and pt0 pw0) (h _ _ _ _ _ hs fun H1 h1 => ?_)
  cases p with
  | true => exact iteT (h2 rfl _ _ _ _ _ h1 fun H2 g2 => k _ g2)
  | false => exact iteF (k _ h1)
theorem jw_or (h : JT X B S a S1 p) (h2 : p = false → JW X B S1 (.BoolOp .Or (b :: rest) pos) S1 q) : JW X B S (.BoolOp .Or (a :: b :: rest) pos) S1 (p || q) := by
  intro T tv σ H Q hs k
  refine pw1 (pw_or pt0 pw0) (h _ _ _ _ _ hs fun H1 h1 => ?_)
  cases p with
  | true => exact iteT (k _ h1)
  | false => exact iteF (h2 rfl _ _ _ _ _ h1 fun H2 g2 => k _ g2)
theorem JW.t (h : JW X B S e S1 p) : JT X B S e S1 p := fun T tv σ H Q hs k => pt1 pw0.pt (h _ _ _ _ _ hs k)
end
theorem SsI.rot {G H : Hp} {xs T : List Slot} {vs tv : List V} {s : Slot} {u : V} {as : List Addr} (hl : xs.length = vs.length) (h : SsI G H (xs ++ s :: T) (vs ++ u :: tv) as) : ∃ bs, SsI G H (s :: (xs ++ T)) (u :: (vs ++ tv)) bs ∧ bs.Perm as := by
  obtain ⟨a1, a2, rfl, h1, h2⟩ := SsI.split hl h
  cases h2 with
  | @cons _ _ b1 _ _ b2 h3 h4 =>
    refine ⟨_, .cons h3 (h1.app h4), ?_⟩
    have e1 : (b1 ++ (a1 ++ b2)).Perm ((a1 ++ b2) ++ b1) := List.perm_append_comm
    have e2 : ((a1 ++ b2) ++ b1).Perm (a1 ++ (b2 ++ b1)) := by rw [List.append_assoc]
    exact e1.trans (e2.trans (List.Perm.append_left _ List.perm_append_comm))
theorem Sta.rot {xs T : List Slot} {σ : St} {vs tv : List V} {H : Hp} {s : Slot} {u : V} (hl : xs.length = vs.length) (h : Sta B S (xs ++ s :: T) σ (vs ++ u :: tv) H) : Sta B S (s :: (xs ++ T)) σ (u :: (vs ++ tv)) H := by
  obtain ⟨G, as, bs, z1, z2, z3, z4, z5, z6, z7, z8, z9⟩ := h
  obtain ⟨cs, h1, hp⟩ := z1.rot hl
  have hp2 : (cs ++ bs).Perm (as ++ bs) := List.Perm.append_right _ hp
  exact ⟨G, cs, bs, h1, z2, z3, hp2.nodup_iff.mpr z4, fun a ha => z5 a (hp2.mem_iff.mp ha), z6, z7, z8, z9⟩
theorem ja_nil : JA X B S [] S [] := fun T tv σ H Q h q => pa1 pa_nil (q [] H rfl h)
theorem ja_cons {xs : List Slot} (h1 : JE X B S e S1 x) (h2 : JA X B S1 es S2 xs) (hs : starEach (e :: es) X.env = (false, eval e X.env) :: starEach es X.env := by rfl) : JA X B S (e :: es) S2 (x :: xs) := by
  intro T tv σ H Q h q
  exact pa1 (pa_cons pe0 pa0 hs) (h1 _ _ _ _ _ h fun v H1 g1 => h2 _ _ _ _ _ g1 fun vs H2 hl g2 => q (v :: vs) H2 (congrArg Nat.succ hl) (Sta.rot hl.symm g2))
end
end J
namespace J
open PySem L2
open PySem.W (Datum)
def forM {ι α : Type} (f : ι → α → Option ι) : List α → ι → Option ι
  | [], s => some s
  | x :: xs, s => (f s x).bind (forM f xs)
/-- a turn: on, out of the loop, out of the def -/
inductive Lp (ι ρ : Type) where
  | nx (s : ι)
  | bk (s : ι)
  | rt (r : ρ)
/-- .. the loop: ended (or left by break), or the def is left -/
def forL {ι α ρ : Type} (f : ι → α → Option (Lp ι ρ)) : List α → ι → Option (Sum ι ρ)
  | [], s => some (.inl s)
  | x :: xs, s => (f s x).bind fun
    | .nx s' => forL f xs s'
    | .bk s' => some (.inl s')
    | .rt r => some (.inr r)
def whileM {ι : Type} (c : ι → Option Bool) (f : ι → Option ι) : Nat → ι → Option ι
  | 0, _ => none
  | n + 1, s => (c s).bind fun b => if b = true then (f s).bind (whileM c f n) else some s
theorem bnd {α β : Type} {m : Option α} {f : α → Option β} {r : β} {C : Prop} (h : m.bind f = some r) (k : ∀ x, m = some x → f x = some r → C) : C := by
  cases m with
  | none => cases h
  | some x => exact k x rfl h
section
variable {X : Cx} {B : Base} {S S1 S2 S3 : Stt} {x y z : Slot} {a b e : Expr} {es : List Expr} {pos : Pos} {D : FE} {rest : List Stmt}
theorem js_step {st : Stmt} {t : TS} (hp : PS X st t) (h : ∀ T tv σ H, Sta B S T σ tv H → t ((D.seq X rest).at T tv) σ H) : JS X B S (st :: rest) D :=
  fun T tv σ H hs => pb1 (pss_cons hp pb0) (h T tv σ H hs)
theorem js_nil (h : ∀ T tv σ H, Sta B S T σ tv H → D.nx T tv σ H) : JS X B S [] D := fun T tv σ H hs => pb1 pss_nil (h T tv σ H hs)
theorem js_end (h : JS X B S rest D) : JS X B S [] (D.seq X rest) := js_nil h
theorem js_set (i : Nat) {n : Str} {pos' : Pos} (he : JE X B S e S1 x) (k : JS X B ⟨S1.sl.set i x, S1.cs⟩ rest D) (hp : x.plain = true := by rfl) (hN : X.N.Nodup := by assumption) (hi : X.N[i]? = some n := by rfl)
    (hx : Loc X.env.scope n := by first | exact .inl rfl | exact .inr rfl) (hs : swapsWith e (some (.Name n pos')) pos.line X.env = pure false := by rfl) (hf : X.fn n = true ∨ X.env.scope.names.lookup n = some .local := by first | exact .inl rfl | exact .inr rfl) :
    JS X B S (.Assign [.Name n pos'] e pos :: rest) D :=
  js_step (ps_set hN hi hx pe0 hs hf) fun T tv σ H h => he _ _ _ _ _ h fun v H1 h1 => k _ _ _ _ (h1.set hp i)
/-- a new thing under a name -/
theorem js_new (i : Nat) {n : Str} {pos' : Pos} {c : Cel} (he : JE X B S e S1 (.own c)) (k : ∀ p, JS X B ⟨S1.sl.set i (.v (.ref p)), S1.cs ++ [(p, c)]⟩ rest D) (hN : X.N.Nodup := by assumption) (hi : X.N[i]? = some n := by rfl)
    (hx : Loc X.env.scope n := by first | exact .inl rfl | exact .inr rfl) (hs : swapsWith e (some (.Name n pos')) pos.line X.env = pure false := by rfl) (hf : X.fn n = true ∨ X.env.scope.names.lookup n = some .local := by first | exact .inl rfl | exact .inr rfl) :
    JS X B S (.Assign [.Name n pos'] e pos :: rest) D :=
  js_step (ps_set hN hi hx pe0 hs hf) fun T tv σ H h => he _ _ _ _ _ h fun v H1 h1 => by
    obtain ⟨p, rfl, h2⟩ := h1.name
    exact k p _ _ _ _ (h2.set rfl i)
theorem js_expr (he : JE X B S e S1 x) (k : JS X B S1 rest D) (hs : swapsWith e none pos.line X.env = pure false := by rfl) : JS X B S (.Expr e pos :: rest) D :=
  js_step (ps_expr pe0 hs) fun T tv σ H h => he _ _ _ _ _ h fun v H1 h1 => k _ _ _ _ h1.drop
/-- what a def hands back, and the cells that it leaves -/
def Out (B : Base) (x : Slot) (cs : List (Addr × Cel)) : V → Hp → Prop := fun v H => Sta B ⟨[], cs⟩ [x] [] [v] H
theorem Sta.only {T : List Slot} {σ : St} {tv : List V} {H : Hp} {v : V} (h : Sta B S (x :: T) σ (v :: tv) H) : Out B x S.cs v H := by
  obtain ⟨G, as, bs, z1, z2, z3, z4, z5, z6, z7, z8, z9⟩ := h
  cases z1 with
  | @cons _ _ a1 _ _ a2 h1 h2 =>
    have hl : (a1 ++ [] ++ bs).Sublist (a1 ++ a2 ++ bs) := ((List.Sublist.refl a1).append (List.nil_sublist a2)).append (List.Sublist.refl bs)
    exact ⟨G, a1 ++ [], bs, .cons h1 .nil, z2, ⟨rfl, fun i s hs => by simp at hs⟩, hl.nodup z4, fun a ha => z5 a (hl.mem ha), z6, z7, z8, z9⟩
theorem js_ret (he : JE X B S e S1 x) (k : ∀ v H', Out B x S1.cs v H' → D.rt v H') : JS X B S (.Return (some e) pos :: rest) D :=
  js_step (ps_ret pe0) fun T tv σ H h => he _ _ _ _ _ h fun v H1 h1 => k v H1 h1.only
/-- both ways go on with what follows -/
theorem js_if {c : Expr} {th el : List Stmt} {p : Bool} (hc : JT X B S c S1 p) (h1 : p = true → JS X B S1 th (D.seq X rest)) (h2 : p = false → JS X B S1 el (D.seq X rest)) : JS X B S (.If c th el pos :: rest) D :=
  js_step (ps_if pt0 pb0 pb0) fun T tv σ H h => hc _ _ _ _ _ h fun H1 g => by
    cases p with
    | true => exact iteT (h1 rfl _ _ _ _ g)
    | false => exact iteF (h2 rfl _ _ _ _ g)
/-- less is known: some slots are forgotten, the last cells dropped -/
inductive Fgt : List Slot → List Slot → Prop where
  | nil : Fgt [] []
  | keep {s : Slot} {l m : List Slot} : Fgt l m → Fgt (s :: l) (s :: m)
  | drop {s : Slot} {l m : List Slot} : Fgt l m → Fgt (s :: l) (.any :: m)
theorem Fgt.len : ∀ {l m : List Slot}, Fgt l m → l.length = m.length
  | _, _, .nil => rfl
  | _, _, .keep h => congrArg Nat.succ h.len
  | _, _, .drop h => congrArg Nat.succ h.len
theorem Fgt.at : ∀ {l m : List Slot}, Fgt l m → ∀ (i : Nat) s, m[i]? = some s → s = .any ∨ l[i]? = some s
  | _, _, .nil, i, s, h => by simp at h
  | _, _, .keep h, 0, s, e => .inr e
  | _, _, .keep h, i + 1, s, e => h.at i s e
  | _, _, .drop h, 0, s, e => .inl (Option.some.inj e).symm
  | _, _, .drop h, i + 1, s, e => h.at i s e
theorem Sta.fgt {T : List Slot} {σ : St} {tv : List V} {H : Hp} {sl : List Slot} (f : Fgt S.sl sl) (h : Sta B S T σ tv H) : Sta B ⟨sl, S.cs⟩ T σ tv H := by
  obtain ⟨G, as, bs, z1, z2, z3, z4, z5, z6, z7, z8, z9⟩ := h
  refine ⟨G, as, bs, z1, z2, ⟨f.len.symm.trans z3.1, fun i s hs => ?_⟩, z4, z5, z6, z7, z8, z9⟩
  rcases f.at i s hs with e | e
  · subst e
    have hi := (List.getElem?_eq_some_iff.mp hs).1
    have hi2 : i < σ.length := z3.1 ▸ f.len ▸ hi
    exact ⟨σ[i], List.getElem?_eq_getElem hi2, trivial⟩
  · exact z3.2 i s e
theorem CsI.take {G H : Hp} : ∀ {cs : List (Addr × Cel)} {bs : List Addr} (n : Nat), CsI G H cs bs → ∃ ds, CsI G H (cs.take n) ds ∧ ds.Sublist bs
  | _, _, 0, _ => ⟨[], .nil, List.nil_sublist _⟩
  | _, _, n + 1, .nil => ⟨[], .nil, List.nil_sublist _⟩
  | _, _, n + 1, .gone h => let ⟨ds, h1, h2⟩ := CsI.take n h; ⟨ds, .gone h1, h2⟩
  | _, _, n + 1, .cons hp hc h => let ⟨ds, h1, h2⟩ := CsI.take n h; ⟨_, .cons hp hc h1, ((List.Sublist.refl _).append h2).cons_cons _⟩
theorem Sta.take {T : List Slot} {σ : St} {tv : List V} {H : Hp} (n : Nat) (h : Sta B S T σ tv H) : Sta B ⟨S.sl, S.cs.take n⟩ T σ tv H := by
  obtain ⟨G, as, bs, z1, z2, z3, z4, z5, z6, z7, z8, z9⟩ := h
  obtain ⟨ds, h1, h2⟩ := z2.take n
  have hl : (as ++ ds).Sublist (as ++ bs) := (List.Sublist.refl as).append h2
  exact ⟨G, as, ds, z1, h1, z3, hl.nodup z4, fun a ha => z5 a (hl.mem ha), z6, z7, z8, z9⟩
theorem Out.take {cs : List (Addr × Cel)} {v : V} {H : Hp} (n : Nat) (h : Out B x cs v H) : Out B x (cs.take n) v H := Sta.take (S := ⟨[], cs⟩) n h
structure tiOf (X : Cx) (tg iter : Expr) (σ : St) (H : Hp) (R : It → Hp → Prop) : Prop where
  run : ∀ pins s, Inv X pins σ H s → wpAny (model X.prog X.w) X.A (eval iter X.env) (fun v s1 => wpAny (model X.prog X.w) X.A (pyIter v) (PIE X pins σ tg R) X.xe s1) X.xe s
theorem pi0 {tg iter : Expr} : PI X tg iter (tiOf X tg iter) := ⟨fun pins s _ _ _ I h => h.run pins s I⟩
theorem pi1 {tg iter : Expr} {t : TI} (h : PI X tg iter t) {σ : St} {H : Hp} {R : It → Hp → Prop} (q : t σ H R) : tiOf X tg iter σ H R := ⟨fun pins s I => h.run pins s σ H R I q⟩
structure tgOf (X : Cx) (tg : Expr) (v : V) (σ : St) (H : Hp) (Q : St → Hp → Prop) : Prop where
  run : ∀ pins s u, Inv X pins σ H s → RelV v u → wpAny (model X.prog X.w) X.A (assign tg X.env u) (fun _ s' => ∃ σ' H', Inv X pins σ' H' s' ∧ Q σ' H') X.xe s
theorem pg0 {tg : Expr} : PG X tg (tgOf X tg) := ⟨fun pins s _ _ _ u _ I r h => h.run pins s u I r⟩
theorem pg1 {tg : Expr} {t : TG} (h : PG X tg t) {v : V} {σ : St} {H : Hp} {Q : St → Hp → Prop} (q : t v σ H Q) : tgOf X tg v σ H Q := ⟨fun pins s u I r => h.run pins s σ H v u Q I r q⟩
theorem wipe_get (σ : St) : ∀ (vs : List Nat) (j : Nat), (wipe σ vs)[j]? = if j ∈ vs then (σ[j]?).map (fun _ => none) else σ[j]?
  | [], j => by rw [if_neg (by simp)]; rfl
  | v :: vs, j => by
    have ih := wipe_get σ vs j
    show ((wipe σ vs).set v none)[j]? = _
    by_cases e : v = j
    · subst e
      rw [if_pos List.mem_cons_self]
      by_cases hl : v < σ.length
      · rw [List.getElem?_set_self (by rw [wipe_length]; exact hl), List.getElem?_eq_getElem hl]; rfl
      · rw [List.getElem?_eq_none (by rw [List.length_set, wipe_length]; omega), List.getElem?_eq_none (by omega)]; rfl
    · rw [List.getElem?_set_ne e, ih]
      by_cases h : j ∈ vs
      · rw [if_pos h, if_pos (List.mem_cons_of_mem _ h)]
      · rw [if_neg h, if_neg (by intro h2; rcases List.mem_cons.mp h2 with h3 | h3; exact e h3.symm; exact h h3)]
theorem wipe_set {σ : St} {vs : List Nat} {i : Nat} {o : Option V} (h : i ∈ vs) : wipe (σ.set i o) vs = wipe σ vs := by
  apply List.ext_getElem?
  intro j
  rw [wipe_get, wipe_get]
  by_cases hj : j ∈ vs
  · rw [if_pos hj, if_pos hj, List.getElem?_set]
    by_cases e : i = j
    · subst e
      rw [if_pos rfl]
      by_cases hl : i < σ.length
      · rw [if_pos hl, List.getElem?_eq_getElem hl]; rfl
      · rw [if_neg hl, List.getElem?_eq_none (by omega)]
    · rw [if_neg e]
  · rw [if_neg hj, if_neg hj, List.getElem?_set_ne (fun e : i = j => hj (e ▸ h))]
theorem wipe_wipe {σ : St} {vs : List Nat} : wipe (wipe σ vs) vs = wipe σ vs := by
  apply List.ext_getElem?
  intro j
  rw [wipe_get, wipe_get]
  by_cases hj : j ∈ vs
  · rw [if_pos hj, if_pos hj]
    cases σ[j]? <;> rfl
  · rw [if_neg hj]
/-- no slots but ws have changed -/
def Chg (ws : List Nat) (σ σ' : St) : Prop := ∀ vs : List Nat, (∀ i ∈ ws, i ∈ vs) → wipe σ' vs = wipe σ vs
theorem Chg.refl (ws : List Nat) (σ : St) : Chg ws σ σ := fun _ _ => rfl
theorem Chg.app {ws ws' : List Nat} {σ σ1 σ2 : St} (a : Chg ws σ σ1) (b : Chg ws' σ1 σ2) : Chg (ws ++ ws') σ σ2 := fun vs h => (b vs fun i hi => h i (List.mem_append_right _ hi)).trans (a vs fun i hi => h i (List.mem_append_left _ hi))
/-- a target takes the topmost value; ws: the slots that it sets -/
def JG (X : Cx) (B : Base) (S : Stt) (tg : Expr) (x : Slot) (S' : Stt) (ws : List Nat) : Prop := ∀ T tv σ v H Q, Sta B S (x :: T) σ (v :: tv) H → (∀ σ' H', Chg ws σ σ' → Sta B S' T σ' tv H' → Q σ' H') → tgOf X tg v σ H Q
theorem jg_name (i : Nat) {n : Str} (hp : x.plain = true := by rfl) (hN : X.N.Nodup := by assumption) (hi : X.N[i]? = some n := by rfl) (hx : Loc X.env.scope n := by first | exact .inl rfl | exact .inr rfl) (hf : X.fn n = true ∨ X.env.scope.names.lookup n = some .local := by first | exact .inl rfl | exact .inr rfl) :
    JG X B S (.Name n pos) x ⟨S.sl.set i x, S.cs⟩ [i] := fun T tv σ v H Q h q => pg1 (pg_name hN hi hx hf) (q _ _ (fun vs hv => wipe_set (hv i List.mem_cons_self)) (h.set hp i))
/-- what a loop walks: n turns, the items; zs are held meanwhile; ok: the states that let it be -/
structure Wk (X : Cx) (B : Base) (zs : List Slot) (zv : List V) (its : List Slot) (ok : Stt → Prop) (J : It) : Prop where
  go : ∀ S T σ tv H (i : Nat) x, ok S → its[i]? = some x → Sta B S (zs ++ T) σ (zv ++ tv) H → J.go i H ∧ ∀ v H', J.yld i H v H' → Sta B S (x :: (zs ++ T)) σ (v :: (zv ++ tv)) H'
  stop : ∀ S T σ tv H, ok S → Sta B S (zs ++ T) σ (zv ++ tv) H → J.stop its.length H
def JI (X : Cx) (B : Base) (S : Stt) (tg iter : Expr) (S' : Stt) (zs its : List Slot) (ok : Stt → Prop) : Prop := ∀ T tv σ H R, Sta B S T σ tv H → (∀ J zv H', zv.length = zs.length → Sta B S' (zs ++ T) σ (zv ++ tv) H' → Wk X B zs zv its ok J → R J H') → tiOf X tg iter σ H R
theorem Sta.drops : ∀ {zs T : List Slot} {σ : St} {zv tv : List V} {H : Hp}, zv.length = zs.length → Sta B S (zs ++ T) σ (zv ++ tv) H → Sta B S T σ tv H
  | [], _, _, [], _, _, _, h => h
  | _ :: zs, _, _, _ :: zv, _, _, e, h => Sta.drops (Nat.succ.inj e) h.drop
  | [], _, _, _ :: _, _, _, e, _ => nomatch e
  | _ :: _, _, _, [], _, _, e, _ => nomatch e
end
end J
namespace J
open PySem L2
open PySem.W (Datum)
section
variable {G H : Hp}
mutual
theorem SlI.def : ∀ {s : Slot} {u : V} {as : List Addr}, SlI G H s u as → ∀ a ∈ as, ∃ o, H a = some o
  | _, _, _, .any, _, h => nomatch h
  | _, _, _, .v, _, h => nomatch h
  | _, _, _, @SlI.val _ _ _ _ _ _ _ _, _, h => nomatch h
  | _, _, _, .own hp hc, a, h => (List.mem_cons.mp h).elim (fun e => ⟨_, e ▸ hp⟩) fun h => CeI.def hc a h
  | _, _, _, .ownA hp hc, a, h => (List.mem_cons.mp h).elim (fun e => ⟨_, e ▸ hp⟩) fun h => CeI.def hc a h
  | _, _, _, .otup _ hs, a, h => SsI.def hs a h
theorem CeI.def : ∀ {c : Cel} {o : HO} {as : List Addr}, CeI G H c o as → ∀ a ∈ as, ∃ o, H a = some o
  | _, _, _, .lst h, a, ha => SsI.def h a ha
  | _, _, _, .ins _ h, a, ha => SsI.def h a ha
  | _, _, _, .dk _ h, a, ha => SsI.def h a ha
  | _, _, _, .fdk h, a, ha => SsI.def h a ha
  | _, _, _, .ex h, a, ha => CeI.def h a ha
theorem SsI.def : ∀ {ss : List Slot} {vs : List V} {as : List Addr}, SsI G H ss vs as → ∀ a ∈ as, ∃ o, H a = some o
  | _, _, _, .nil, _, h => nomatch h
  | _, _, _, .cons h1 h2, a, ha => (List.mem_append.mp ha).elim (fun h => SlI.def h1 a h) fun h => SsI.def h2 a h
end
theorem CsI.def : ∀ {cs : List (Addr × Cel)} {as : List Addr}, CsI G H cs as → ∀ a ∈ as, ∃ o, H a = some o
  | _, _, .nil, _, h => nomatch h
  | _, _, .gone h, a, ha => CsI.def h a ha
  | _, _, .cons hp hc h, a, ha => (List.mem_cons.mp ha).elim (fun e => ⟨_, e ▸ hp⟩) fun ha => (List.mem_append.mp ha).elim (fun h => hc.def a h) fun h' => CsI.def h a h'
theorem CeI.ntO : ∀ {c : Cel} {o : HO} {as : List Addr}, CeI G H c o as → NT o
  | _, _, _, .say _ _ n => n
  | _, _, _, .lst _ => fun _ z => nomatch z
  | _, _, _, .ins _ _ => fun _ z => nomatch z
  | _, _, _, .dk _ _ => fun _ z => nomatch z
  | _, _, _, .fdk _ => fun _ z => nomatch z
  | _, _, _, .ex h => CeI.ntO h
mutual
theorem SlI.nt : ∀ {s : Slot} {u : V} {as : List Addr}, SlI G H s u as → ∀ a ∈ as, ∃ o, H a = some o ∧ NT o
  | _, _, _, .any, _, h => nomatch h
  | _, _, _, .v, _, h => nomatch h
  | _, _, _, @SlI.val _ _ _ _ _ _ _ _, _, h => nomatch h
  | _, _, _, .own hp hc, a, h => (List.mem_cons.mp h).elim (fun e => ⟨_, e ▸ hp, CeI.ntO hc⟩) fun h => CeI.nt hc a h
  | _, _, _, .ownA hp hc, a, h => (List.mem_cons.mp h).elim (fun e => ⟨_, e ▸ hp, CeI.ntO hc⟩) fun h => CeI.nt hc a h
  | _, _, _, .otup _ hs, a, h => SsI.nt hs a h
theorem CeI.nt : ∀ {c : Cel} {o : HO} {as : List Addr}, CeI G H c o as → ∀ a ∈ as, ∃ o, H a = some o ∧ NT o
  | _, _, _, .lst h, a, ha => SsI.nt h a ha
  | _, _, _, .ins _ h, a, ha => SsI.nt h a ha
  | _, _, _, .dk _ h, a, ha => SsI.nt h a ha
  | _, _, _, .fdk h, a, ha => SsI.nt h a ha
  | _, _, _, .ex h, a, ha => CeI.nt h a ha
theorem SsI.nt : ∀ {ss : List Slot} {vs : List V} {as : List Addr}, SsI G H ss vs as → ∀ a ∈ as, ∃ o, H a = some o ∧ NT o
  | _, _, _, .nil, _, h => nomatch h
  | _, _, _, .cons h1 h2, a, ha => (List.mem_append.mp ha).elim (fun h => SlI.nt h1 a h) fun h => SsI.nt h2 a h
end
theorem CsI.nt : ∀ {cs : List (Addr × Cel)} {as : List Addr}, CsI G H cs as → ∀ a ∈ as, ∃ o, H a = some o ∧ NT o
  | _, _, .nil, _, h => nomatch h
  | _, _, .gone h, a, ha => CsI.nt h a ha
  | _, _, .cons hp hc h, a, ha => (List.mem_cons.mp ha).elim (fun e => ⟨_, e ▸ hp, hc.ntO⟩) fun ha => (List.mem_append.mp ha).elim (fun h => hc.nt a h) fun h' => CsI.nt h a h'
theorem SsI.one {s : Slot} {u : V} {as : List Addr} (h : SlI G H s u as) : SsI G H [s] [u] as := by
  have := SsI.cons h .nil
  rwa [List.append_nil] at this
theorem SsI.plain : ∀ {ss : List Slot} {vs : List V} {as : List Addr}, SsI G H ss vs as → (∀ s ∈ ss, s.plain = true) → as = []
  | _, _, _, .nil, _ => rfl
  | _, _, _, .cons h1 h2, h => by rw [h1.nil (h _ List.mem_cons_self), SsI.plain h2 fun s hs => h s (List.mem_cons_of_mem _ hs)]; rfl
theorem SsI.cons_inv {s : Slot} {u : V} {ss : List Slot} {vs : List V} {as : List Addr} (h : SsI G H (s :: ss) (u :: vs) as) : ∃ a1 a2, as = a1 ++ a2 ∧ SlI G H s u a1 ∧ SsI G H ss vs a2 := by
  cases h with
  | @cons _ _ a1 _ _ a2 h1 h2 => exact ⟨a1, a2, rfl, h1, h2⟩
theorem SsI.cons_nil {s : Slot} {u : V} {ss : List Slot} {vs : List V} (h : SsI G H (s :: ss) (u :: vs) []) : SlI G H s u [] ∧ SsI G H ss vs [] := by
  obtain ⟨a1, a2, e, h1, h2⟩ := h.cons_inv
  obtain ⟨rfl, rfl⟩ := List.append_eq_nil_iff.mp e.symm
  exact ⟨h1, h2⟩
theorem SsI.get : ∀ {ss : List Slot} {vs : List V} (i : Nat) {s : Slot}, SsI G H ss vs [] → ss[i]? = some s → ∃ u, vs[i]? = some u ∧ SlI G H s u []
  | [], _, _, _, _, h => by simp at h
  | _ :: _, [], _, _, h, _ => by cases h
  | _ :: _, v :: _, 0, s, h, e => by
    have e1 := Option.some.inj (show some _ = some s from e)
    subst e1
    exact ⟨v, rfl, h.cons_nil.1⟩
  | _ :: ss, v :: vs, i + 1, s, h, e => SsI.get (ss := ss) (vs := vs) i h.cons_nil.2 (show ss[i]? = some s from e)
theorem SsI.of_get : ∀ {ss : List Slot} {vs : List V}, ss.length = vs.length → (∀ (i : Nat) s u, ss[i]? = some s → vs[i]? = some u → SlI G H s u []) → SsI G H ss vs []
  | [], [], _, _ => .nil
  | [], _ :: _, e, _ => nomatch e
  | _ :: _, [], e, _ => nomatch e
  | s :: ss, v :: vs, e, h => .cons (as := []) (h 0 s v rfl rfl) (SsI.of_get (Nat.succ.inj e) fun i s u h1 h2 => h (i + 1) s u h1 h2)
theorem dqAll_ss {α : Type} [DecidableEq α] [Datum α] : ∀ {xs : List α} {vs : List V}, DqAll G vs (xs.map Datum.toD) → SsI G H (xs.map Slot.val) vs []
  | [], _, h => by cases h; exact .nil
  | x :: xs, _, h => by
    cases h with
    | cons h1 h2 => exact .cons (as := []) (.val h1) (dqAll_ss h2)
theorem ss_dqAll {α : Type} [DecidableEq α] [Datum α] : ∀ {xs : List α} {vs : List V} {as : List Addr}, SsI G H (xs.map Slot.val) vs as → DqAll G vs (xs.map Datum.toD)
  | [], _, _, h => by cases h; exact .nil
  | x :: xs, _, _, h => by
    cases h with
    | cons h1 h2 =>
      cases h1 with
      | val h1 => exact .cons h1 (ss_dqAll h2)
end
section
variable {B : Base} {S : Stt} {T : List Slot} {σ : St} {tv : List V} {H G : Hp} {as bs : List Addr} {x : Slot} {v : V}
theorem St0.sta (z : St0 B S T σ tv H G as bs) : Sta B S T σ tv H := ⟨G, as, bs, z⟩
theorem St0.pop (z : St0 B S (x :: T) σ (v :: tv) H G as bs) : ∃ a1 a2, as = a1 ++ a2 ∧ SlI G H x v a1 ∧ St0 B S T σ tv H G a2 bs := by
  obtain ⟨z1, z2, z3, z4, z5, z6, z7, z8, z9⟩ := z
  cases z1 with
  | @cons _ _ a1 _ _ a2 h1 h2 =>
    refine ⟨a1, a2, rfl, h1, h2, z2, z3, ?_, fun a ha => z5 a ?_, z6, z7, z8, z9⟩
    · rw [List.append_assoc] at z4
      exact (List.nodup_append.mp z4).2.1
    · rw [List.append_assoc]
      exact List.mem_append_right _ ha
theorem St0.fresh (z : St0 B S T σ tv H G as bs) {p : Addr} (hp : H p = none) : ∀ a ∈ as ++ bs, a ≠ p := fun a ha e => by
  subst e
  rcases List.mem_append.mp ha with h | h
  · obtain ⟨o, e⟩ := z.tmp.def a h; rw [hp] at e; cases e
  · obtain ⟨o, e⟩ := z.cel.def a h; rw [hp] at e; cases e
theorem ex_none {H H' : Hp} (e : Ex H H') {p : Addr} (h : H' p = none) : H p = none := by
  cases q : H p with
  | none => rfl
  | some o => rw [e p o q] at h; cases h
theorem ex_upd {H H' : Hp} (e : Ex H H') {p : Addr} {o : HO} (h : H p = none) : Ex H (upd H' p o) := fun a u ha => by rw [upd_ne (ne_of_none ha h)]; exact e a u ha
/-- the heap has one more thing, that nobody owns yet -/
theorem St0.grown (z : St0 B S T σ tv H G as bs) {p : Addr} {o : HO} (hp : H p = none) : St0 B S T σ tv (upd H p o) G as bs :=
  ⟨z.tmp.mono (Ex.refl G) fun a ha => upd_ne (z.fresh hp a (List.mem_append_left _ ha)), z.cel.mono (Ex.refl G) fun a ha => upd_ne (z.fresh hp a (List.mem_append_right _ ha)), z.slo, z.nod, z.fre, z.gro, z.new, ex_upd z.sub (ex_none z.sub hp), ex_upd z.frm (ex_none z.frm hp)⟩
/-- a new thing, owned -/
theorem St0.newO (z : St0 B S T σ tv H G as bs) {p : Addr} {o : HO} {c : Cel} (hp : H p = none) (hc : CeI G (upd H p o) c o []) : Sta B S (.own c :: T) σ (.ref p :: tv) (upd H p o) := by
  obtain ⟨z1, z2, z3, z4, z5, z6, z7, z8, z9⟩ := z.grown (o := o) hp
  refine ⟨G, (p :: []) ++ as, bs, .cons (.own upd_same hc) z1, z2, z3, List.nodup_cons.mpr ⟨fun h => z.fresh hp p h rfl, z4⟩, fun a ha => ?_, z6, z7, z8, z9⟩
  rcases List.mem_cons.mp ha with e | ha
  · subst e
    exact ⟨ex_none z.sub hp, ex_none z.frm hp⟩
  · exact z5 a ha
/-- a new thing, for good -/
theorem St0.newG (z : St0 B S T σ tv H G as bs) {p : Addr} {o : HO} (hp : H p = none) (hx : SlI (upd G p o) (upd H p o) x (.ref p) []) : Sta B S (x :: T) σ (.ref p :: tv) (upd H p o) := by
  have hg : G p = none := ex_none z.sub hp
  have eg : Ex G (upd G p o) := ex_upd (Ex.refl G) hg
  refine ⟨upd G p o, [] ++ as, bs, .cons hx (z.tmp.mono eg fun a ha => upd_ne (z.fresh hp a (List.mem_append_left _ ha))), z.cel.mono eg fun a ha => upd_ne (z.fresh hp a (List.mem_append_right _ ha)), z.slo.mono eg, z.nod, fun a ha => ?_, z.gro.trans eg, fun a u ha => ?_, fun a u ha => ?_, ex_upd z.frm (ex_none z.frm hp)⟩
  · rw [upd_ne (z.fresh hp a ha)]
    exact z.fre a ha
  · by_cases e : a = p
    · subst e
      exact .inr (.inl (ex_none z.frm hp))
    · rw [upd_ne e] at ha
      exact z.new a u ha
  · by_cases e : a = p
    · subst e
      rw [upd_same] at ha ⊢
      exact ha
    · rw [upd_ne e] at ha ⊢
      exact z.sub a u ha
end
section
mutual
inductive FzS : Slot → PyData → Prop where
  | val {α : Type} [DecidableEq α] [Datum α] {x : α} : FzS (.val x) (Datum.toD x)
  | non : FzS (.v .non) .none
  | own {c : Cel} {d : PyData} : FzC c d → FzS (.own c) d
inductive FzC : Cel → PyData → Prop where
  | lst {ss : List Slot} {ds : List PyData} : FzA ss ds → FzC (.lst ss) (.list ds)
inductive FzA : List Slot → List PyData → Prop where
  | nil : FzA [] []
  | cons {s : Slot} {d : PyData} {ss : List Slot} {ds : List PyData} : FzS s d → FzA ss ds → FzA (s :: ss) (d :: ds)
end
theorem fz_map {α : Type} [DecidableEq α] [Datum α] : ∀ xs : List α, FzA (xs.map Slot.val) (xs.map Datum.toD)
  | [] => .nil
  | _ :: xs => .cons .val (fz_map xs)
theorem fz_val {α : Type} [DecidableEq α] [Datum α] (xs : List α) : FzC (.lst (xs.map Slot.val)) (Datum.toD xs) := .lst (fz_map xs)
variable {G G' H : Hp}
mutual
theorem FzS.dq : ∀ {s : Slot} {d : PyData} {u : V} {as : List Addr}, FzS s d → SlI G H s u as → Ex G G' → (∀ a ∈ as, G' a = H a) → Dq G' u d
  | _, _, _, _, @FzS.val α i1 i2 x, h, e, _ => by cases h with | val h => exact dq_mono e h
  | _, _, _, _, .non, .v, _, _ => .non
  | _, _, _, _, .own h, .own hp hc, e, f => FzC.dq h hc ((f _ List.mem_cons_self).trans hp) e fun a ha => f a (List.mem_cons_of_mem _ ha)
theorem FzC.dq : ∀ {c : Cel} {d : PyData} {p : Addr} {o : HO} {as : List Addr}, FzC c d → CeI G H c o as → G' p = some o → Ex G G' → (∀ a ∈ as, G' a = H a) → Dq G' (.ref p) d
  | _, _, _, _, _, .lst h, .lst hs, hp, e, f => .lst hp (FzA.dq h hs e f)
theorem FzA.dq : ∀ {ss : List Slot} {ds : List PyData} {vs : List V} {as : List Addr}, FzA ss ds → SsI G H ss vs as → Ex G G' → (∀ a ∈ as, G' a = H a) → DqAll G' vs ds
  | _, _, _, _, .nil, .nil, _, _ => .nil
  | _, _, _, _, .cons h1 h2, .cons s1 s2, e, f => .cons (FzS.dq h1 s1 e fun a ha => f a (List.mem_append_left _ ha)) (FzA.dq h2 s2 e fun a ha => f a (List.mem_append_right _ ha))
end
end
section
variable {B : Base} {S : Stt} {T : List Slot} {σ : St} {tv : List V} {H G : Hp} {as bs : List Addr} {x : Slot} {v : V}
/-- the addresses fs are said for good -/
theorem St0.froz (z : St0 B S T σ tv H G as bs) (fs : List Addr) (hf : ∀ a ∈ fs, G a = none ∧ B.F a = none ∧ ∃ o, H a = some o) (hn : ∀ a ∈ as ++ bs, a ∉ fs) : ∃ G', Ex G G' ∧ (∀ a ∈ fs, G' a = H a) ∧ St0 B S T σ tv H G' as bs := by
  refine ⟨fun a => if a ∈ fs then H a else G a, fun a o ha => ?_, fun a ha => if_pos ha, ?_⟩
  · have : a ∉ fs := fun h => by rw [(hf a h).1] at ha; cases ha
    show (if a ∈ fs then H a else G a) = some o
    rw [if_neg this]; exact ha
  · have eg : Ex G (fun a => if a ∈ fs then H a else G a) := fun a o ha => by
      have : a ∉ fs := fun h => by rw [(hf a h).1] at ha; cases ha
      show (if a ∈ fs then H a else G a) = some o
      rw [if_neg this]; exact ha
    refine ⟨z.tmp.mono eg fun _ _ => rfl, z.cel.mono eg fun _ _ => rfl, z.slo.mono eg, z.nod, fun a ha => ⟨?_, (z.fre a ha).2⟩, z.gro.trans eg, fun a o ha => ?_, fun a o ha => ?_, z.frm⟩
    · show (if a ∈ fs then H a else G a) = none
      rw [if_neg (hn a ha)]; exact (z.fre a ha).1
    · by_cases h : a ∈ fs
      · exact .inr (.inl (hf a h).2.1)
      · have ha' : (if a ∈ fs then H a else G a) = some o := ha
        rw [if_neg h] at ha'; exact z.new a o ha'
    · have ha' : (if a ∈ fs then H a else G a) = some o := ha
      by_cases h : a ∈ fs
      · rw [if_pos h] at ha'; exact ha'
      · rw [if_neg h] at ha'; exact z.sub a o ha'
/-- a temporary thing that is data, for good -/
theorem Sta.frz {d : PyData} (f : FzS x d) (h : Sta B S (x :: T) σ (v :: tv) H) {y : Slot} (hy : ∀ G, Dq G v d → SlI G H y v []) : Sta B S (y :: T) σ (v :: tv) H := by
  obtain ⟨G, as, bs, z⟩ := h
  obtain ⟨a1, a2, rfl, h1, z'⟩ := z.pop
  obtain ⟨G', e, g, z2⟩ := z'.froz a1 (fun a ha => ⟨(z.fre a (by simp [ha])).1, (z.fre a (by simp [ha])).2, h1.def a ha⟩) (fun a ha hb => by
    have nd := z.nod
    rw [List.append_assoc] at nd
    exact (List.nodup_append.mp nd).2.2 a hb a ha rfl)
  exact ⟨G', [] ++ a2, bs, .cons (hy G' (f.dq h1 e g)) z2.tmp, z2.cel, z2.slo, z2.nod, z2.fre, z2.gro, z2.new, z2.sub, z2.frm⟩
end
section
variable {X : Cx} {B : Base} {S S1 S2 S3 : Stt} {x y z : Slot} {a b e : Expr} {es : List Expr} {pos : Pos} {D : FE} {rest : List Stmt}
theorem je_frz {α : Type} [DecidableEq α] [Datum α] {t : α} (h : JE X B S e S1 x) (f : FzS x (Datum.toD t)) : JE X B S e S1 (.val t) := fun T tv σ H Q hs q => h _ _ _ _ _ hs fun v H' g => q v H' (g.frz f fun G d => .val d)
theorem je_frL {α : Type} [DecidableEq α] [Datum α] {xs : List α} (h : JE X B S e S1 (.own (.lst (xs.map Slot.val)))) : JE X B S e S1 (.val xs) := je_frz h (.own (fz_val xs))
def SlD (x : Slot) (d : PyData) : Prop := ∀ {G H u as}, SlI G H x u as → Dq G u d
theorem sld_val {α : Type} [DecidableEq α] [Datum α] {t : α} : SlD (.val t) (Datum.toD t) := fun h => by cases h with | val h => exact h
inductive SlDs : List Slot → List PyData → Prop where
  | nil : SlDs [] []
  | cons {s : Slot} {d : PyData} {ss : List Slot} {ds : List PyData} : SlD s d → SlDs ss ds → SlDs (s :: ss) (d :: ds)
theorem SlDs.all : ∀ {ss : List Slot} {ds : List PyData} {G H : Hp} {vs : List V} {as : List Addr}, SlDs ss ds → SsI G H ss vs as → DqAll G vs ds
  | _, _, _, _, _, _, .nil, .nil => .nil
  | _, _, _, _, _, _, .cons h1 h2, .cons s1 s2 => .cons (h1 s1) (h2.all s2)
theorem St0.split {B : Base} {S : Stt} {xs T : List Slot} {σ : St} {vs tv : List V} {H G : Hp} {as bs : List Addr} (z : St0 B S (xs ++ T) σ (vs ++ tv) H G as bs) (hl : xs.length = vs.length) : ∃ a1 a2, as = a1 ++ a2 ∧ SsI G H xs vs a1 ∧ St0 B S T σ tv H G a2 bs := by
  obtain ⟨z1, z2, z3, z4, z5, z6, z7, z8, z9⟩ := z
  obtain ⟨a1, a2, rfl, h1, h2⟩ := SsI.split hl z1
  refine ⟨a1, a2, rfl, h1, h2, z2, z3, ?_, fun a ha => z5 a ?_, z6, z7, z8, z9⟩
  · rw [List.append_assoc] at z4
    exact (List.nodup_append.mp z4).2.1
  · rw [List.append_assoc]
    exact List.mem_append_right _ ha
/-- a written tuple -/
theorem je_tup {α : Type} [DecidableEq α] [Datum α] {t : α} {xs : List Slot} {ds : List PyData} {k : Nat} (ha : JA X B S es S1 xs) (hd : SlDs xs ds) (ht : Datum.toD t = .tuple ds) (hl : xs.length ≤ 1000) : JE X B S (.Tuple es k pos) S1 (.val t) := fun T tv σ H Q hs q =>
  pe1 (pe_tup pa0) (ha _ _ _ _ _ hs fun vs H1 he h1 => ⟨Nat.le_trans (Nat.le_of_eq he) (Nat.le_trans hl (by decide)), fun p hp => by
    obtain ⟨G, as, bs, z⟩ := h1
    obtain ⟨a1, a2, rfl, g1, z'⟩ := z.split he.symm
    refine q _ _ (z'.newG hp (.val ?_))
    rw [ht]
    exact .tup upd_same (dqAll_mono (ex_upd (Ex.refl G) (ex_none z'.sub hp)) (hd.all g1))⟩)
/-- a written list -/
theorem je_lst {xs : List Slot} (ha : JA X B S es S1 xs) (hl : xs.length ≤ 1000) : JE X B S (.List es pos) S1 (.own (.lst xs)) := fun T tv σ H Q hs q =>
  pe1 (pe_lst pa0) (ha _ _ _ _ _ hs fun vs H1 he h1 => ⟨Nat.le_trans (Nat.le_of_eq he) (Nat.le_trans hl (by decide)), fun p hp => by
    obtain ⟨G, as, bs, z⟩ := h1
    obtain ⟨z1, z2, z3, z4, z5, z6, z7, z8, z9⟩ := z.grown (o := .lst vs) hp
    obtain ⟨a1, a2, rfl, g1, g2⟩ := SsI.split he.symm z1
    refine q _ _ ⟨G, (p :: a1) ++ a2, bs, .cons (.own upd_same (.lst g1)) g2, z2, z3, List.nodup_cons.mpr ⟨fun h => z.fresh hp p h rfl, z4⟩, fun a ha => ?_, z6, z7, z8, z9⟩
    rcases List.mem_cons.mp ha with e | ha
    · subst e
      exact ⟨ex_none z.sub hp, ex_none z.frm hp⟩
    · exact z5 a ha⟩)
end
end J
namespace J
universe u w
open PySem L2
open PySem.W (Datum)
def gx {α : Type u} (xs : List α) (i : Int) : Option α := if 0 ≤ i then xs[i.toNat]? else if -(xs.length : Int) ≤ i then xs[(i + xs.length).toNat]? else none
/-- the place that an index means -/
def ixp (n : Nat) (i : Int) : Option Nat := if 0 ≤ i then (if i < n then some i.toNat else none) else if -(n : Int) ≤ i then some (i + n).toNat else none
def sx (n d : Nat) : Option Int → Nat
  | none => d
  | some v => if v < 0 then (v + (n : Int)).toNat else min v.toNat n
def slc {α : Type u} (xs : List α) (lo hi : Option Int) : List α := (xs.drop (sx xs.length 0 lo)).take (sx xs.length xs.length hi - sx xs.length 0 lo)
def psh {α : Type u} (xs : List α) (x : α) : Option (List α) := if xs.length < 16777216 then some (xs ++ [x]) else none
def stx {α : Type u} (xs : List α) (i : Int) (x : α) : Option (List α) := (ixp xs.length i).bind fun j => some (xs.set j x)
theorem sx_eq (n d : Nat) (o : Option Int) : sx n d o = HT.sIx n d o := by cases o <;> rfl
theorem atI_gx {α : Type} (xs : List α) (i : Int) : atI xs i = gx xs i := by
  unfold atI ixN gx
  by_cases h : 0 ≤ i
  · rw [if_pos h, if_pos h]
    by_cases h2 : i < xs.length
    · rw [if_pos h2]; rfl
    · rw [if_neg h2, List.getElem?_eq_none (by omega)]; rfl
  · rw [if_neg h, if_neg h]
    by_cases h2 : -(xs.length : Int) ≤ i
    · rw [if_pos h2, if_pos h2]; rfl
    · rw [if_neg h2, if_neg h2]; rfl
theorem gx_ixp {α : Type u} (xs : List α) (i : Int) : gx xs i = (ixp xs.length i).bind fun j => xs[j]? := by
  unfold ixp gx
  by_cases h : 0 ≤ i
  · rw [if_pos h, if_pos h]
    by_cases h2 : i < xs.length
    · rw [if_pos h2]; rfl
    · rw [if_neg h2, List.getElem?_eq_none (by omega)]; rfl
  · rw [if_neg h, if_neg h]
    by_cases h2 : -(xs.length : Int) ≤ i
    · rw [if_pos h2, if_pos h2]; rfl
    · rw [if_neg h2, if_neg h2]; rfl
theorem gx_map {α : Type u} {β : Type w} (f : α → β) (xs : List α) (i : Int) : gx (xs.map f) i = (gx xs i).map f := by
  unfold gx
  rw [List.length_map]
  by_cases h : 0 ≤ i
  · rw [if_pos h, if_pos h, List.getElem?_map]
  · rw [if_neg h, if_neg h]
    by_cases h2 : -(xs.length : Int) ≤ i
    · rw [if_pos h2, if_pos h2, List.getElem?_map]
    · rw [if_neg h2, if_neg h2]; rfl
theorem slc_map {α : Type u} {β : Type w} (f : α → β) (xs : List α) (lo hi : Option Int) : slc (xs.map f) lo hi = (slc xs lo hi).map f := by
  unfold slc
  rw [List.length_map, List.map_take, List.map_drop]
theorem psh_some {α : Type u} {xs : List α} {x : α} {ys : List α} (h : psh xs x = some ys) : xs.length < 16777216 ∧ ys = xs ++ [x] := by
  unfold psh at h
  split at h
  · exact ⟨by assumption, (Option.some.inj h).symm⟩
  · cases h
section
variable {G H : Hp}
def Lv (K : PySem.W.Frag) (B : Base) (S : Stt) (x : Slot) (ss : List Slot) : Prop := ∀ {T σ v tv H G as bs}, St0 B S (x :: T) σ (v :: tv) H G as bs → ∃ a vs, v = .ref a ∧ SqL K H a vs ∧ SsI G H ss vs []
variable {K : PySem.W.Frag} {B : Base} {S : Stt}
theorem lv_val {α : Type} [DecidableEq α] [Datum α] {xs : List α} : Lv K B S (.val xs) (xs.map Slot.val) := fun z => by
  obtain ⟨a1, a2, _, h, z'⟩ := z.pop
  cases h with
  | val h =>
    generalize hd : Datum.toD xs = d at h
    have e : d = .list (xs.map Datum.toD) := hd.symm
    subst e
    cases h with
    | lst hp ha => exact ⟨_, _, rfl, .of (z.sub _ _ hp), dqAll_ss ha⟩
theorem lv_own {ss : List Slot} (hp : ∀ s ∈ ss, s.plain = true) : Lv K B S (.own (.lst ss)) ss := fun z => by
  obtain ⟨a1, a2, _, h, z'⟩ := z.pop
  cases h with
  | own hp' hc =>
    cases hc with
    | lst hs => exact ⟨_, _, rfl, .of hp', hs.plain hp ▸ hs⟩
theorem plain_map {α : Type} [DecidableEq α] [Datum α] (xs : List α) : ∀ s ∈ xs.map Slot.val, s.plain = true := fun s hs => by
  obtain ⟨x, _, rfl⟩ := List.mem_map.mp hs
  rfl
theorem lv_own' {α : Type} [DecidableEq α] [Datum α] {xs : List α} : Lv K B S (.own (.lst (xs.map Slot.val))) (xs.map Slot.val) := lv_own (plain_map xs)
theorem lv_cell (k : Nat) {p : Addr} {ss : List Slot} (hk : S.cs[k]? = some (p, .lst ss)) (hp : ∀ s ∈ ss, s.plain = true) : Lv K B S (.v (.ref p)) ss := fun z => by
  obtain ⟨a1, a2, _, h, z'⟩ := z.pop
  cases h with
  | v =>
    obtain ⟨l, o, m, r, _, hp', hc, _⟩ := z.cel.at k hk (by intro e; cases e)
    cases hc with
    | lst hs => exact ⟨_, _, rfl, .of hp', hs.plain hp ▸ hs⟩
theorem lv_cell' {α : Type} [DecidableEq α] [Datum α] (k : Nat) {p : Addr} {xs : List α} (hk : S.cs[k]? = some (p, .lst (xs.map Slot.val))) : Lv K B S (.v (.ref p)) (xs.map Slot.val) := lv_cell k hk (plain_map xs)
/-- the script, and what else is known ahead -/
theorem lv_pre {p : Addr} {ns : List Int} (h : SqL K B.G p (ns.map V.int)) : Lv K B S (.v (.ref p)) (ns.map Slot.val) := fun z => by
  obtain ⟨a1, a2, _, h', z'⟩ := z.pop
  cases h' with
  | v =>
    refine ⟨_, _, rfl, h.imp (fun r => r.imp (fun q => z.sub _ _ (z.gro _ _ q)) fun ⟨o, q⟩ => ⟨o, z.sub _ _ (z.gro _ _ q)⟩) id, ?_⟩
    exact SsI.of_get (by simp) fun i s u h1 h2 => by
      rw [List.getElem?_map] at h1 h2
      cases q : ns[i]? with
      | none => rw [q] at h1; cases h1
      | some n =>
        rw [q] at h1 h2
        cases h1
        cases h2
        exact .val (.int n)
end
section
variable {X : Cx} {B : Base} {S S1 S2 S3 : Stt} {x y z : Slot} {a b e : Expr} {es : List Expr} {pos : Pos} {D : FE} {rest : List Stmt} {ss : List Slot}
def OC (B : Base) (r : List V → Hp → VK → Prop) (S : Stt) (xs : List Slot) (S' : Stt) (z : Slot) : Prop := ∀ T tv σ vs H Q, vs.length = xs.length → Sta B S (xs ++ T) σ (vs ++ tv) H → (∀ w H', Sta B S' (z :: T) σ (w :: tv) H' → Q w H') → r vs H Q
theorem je_callB {r : List V → Hp → VK → Prop} {id : String} {n : Str} {p : Pos} {xs : List Slot} (hc : CallR X (.builtin id) r) (hm : X.mg n = none) (hv : bootBuiltins n = some (.builtin id)) (ha : JA X B S (e :: es) S1 xs) (hr : OC B r S1 xs S2 z) (hg : Gl X n := by rfl) (hn : n ≠ "__name__" := by decide) (hdb : (n == ("__debug__" : Str)) = false := by decide)
    (he : starEach (e :: es) X.env = (false, eval e X.env) :: starEach es X.env := by rfl) (hpl : (backTo pos (starEach es X.env)).any (·.1) = false := by rfl) : JE X B S (.Call (.Name n p) (e :: es) [] pos) S2 z := fun T tv σ H Q hs q =>
  pe1 (pe_callB hc hg hm hv pa0 hn hdb he hpl) (ha _ _ _ _ _ hs fun vs H1 hl h1 => hr _ _ _ _ _ _ hl h1 q)
theorem je_callT {r : List V → Hp → VK → Prop} {id : String} {n : Str} {p : Pos} {xs : List Slot} (hc : CallR X (.type id) r) (hm : X.mg n = none) (hv : bootBuiltins n = some (.type id)) (ha : JA X B S (e :: es) S1 xs) (hr : OC B r S1 xs S2 z) (hg : Gl X n := by rfl) (hn : n ≠ "__name__" := by decide) (hdb : (n == ("__debug__" : Str)) = false := by decide)
    (he : starEach (e :: es) X.env = (false, eval e X.env) :: starEach es X.env := by rfl) (hpl : (backTo pos (starEach es X.env)).any (·.1) = false := by rfl) : JE X B S (.Call (.Name n p) (e :: es) [] pos) S2 z := fun T tv σ H Q hs q =>
  pe1 (pe_callTy hc hg hm hv pa0 hn hdb he hpl) (ha _ _ _ _ _ hs fun vs H1 hl h1 => hr _ _ _ _ _ _ hl h1 q)
theorem oc1 {r : List V → Hp → VK → Prop} (h : ∀ T tv σ v H Q, Sta B S (x :: T) σ (v :: tv) H → (∀ w H', Sta B S2 (z :: T) σ (w :: tv) H' → Q w H') → r [v] H Q) : OC B r S [x] S2 z := fun T tv σ vs H Q hl hs q => match vs, hl with
  | [v], _ => h T tv σ v H Q hs q
theorem oc2 {r : List V → Hp → VK → Prop} (h : ∀ T tv σ v u H Q, Sta B S (x :: y :: T) σ (v :: u :: tv) H → (∀ w H', Sta B S2 (z :: T) σ (w :: tv) H' → Q w H') → r [v, u] H Q) : OC B r S [x, y] S2 z := fun T tv σ vs H Q hl hs q => match vs, hl with
  | [v, u], _ => h T tv σ v u H Q hs q
theorem je_len {n : Str} {p : Pos} {α : Type} [DecidableEq α] [Datum α] {xs : List α} (hm : X.mg "len" = none) (ha : JE X B S e S1 x) (hl : Lv X.K B S1 x (xs.map Slot.val)) (hg : Gl X "len" := by rfl) (hst : starEach [e] X.env = (false, eval e X.env) :: starEach [] X.env := by rfl) : JE X B S (.Call (.Name "len" p) [e] [] pos) S1 (.val (xs.length : Int)) :=
  je_callB call_len_seq hm boot_len (ja_cons ha ja_nil hst) (oc1 fun T tv σ v H Q hs q => by
    obtain ⟨G, as, bs, z⟩ := id hs
    obtain ⟨a, vs, rfl, hr, hss⟩ := hl z
    refine ⟨a, vs, rfl, .inl hr, ?_⟩
    have := hss.len
    rw [List.length_map] at this
    rw [← this]
    exact q _ _ (hs.drop.push fun _ _ => sl_int _)) hg (by decide) (by decide) hst
theorem je_abs {p : Pos} {i : Int} (hm : X.mg "abs" = none) (ha : JE X B S e S1 (.val i)) (hg : Gl X "abs" := by rfl) (hst : starEach [e] X.env = (false, eval e X.env) :: starEach [] X.env := by rfl) : JE X B S (.Call (.Name "abs" p) [e] [] pos) S1 (.val (if i < 0 then -i else i)) :=
  je_callB call_abs hm PyProof.Rows.boot_abs (ja_cons ha ja_nil hst) (oc1 fun T tv σ v H Q hs q => by
    have e := hs.int
    subst e
    exact ⟨i, rfl, q _ _ (hs.drop.push fun _ _ => sl_int _)⟩) hg (by decide) (by decide) hst
theorem je_min2 {p : Pos} {i j : Int} (hm : X.mg "min" = none) (ha : JE X B S a S1 (.val i)) (hb : JE X B S1 b S2 (.val j)) (hc : X.calm = true := by rfl) (hg : Gl X "min" := by rfl) (hst : starEach [a, b] X.env = (false, eval a X.env) :: starEach [b] X.env := by rfl) (hst2 : starEach [b] X.env = (false, eval b X.env) :: starEach [] X.env := by rfl) (hpl : (backTo pos (starEach [b] X.env)).any (·.1) = false := by rfl) : JE X B S (.Call (.Name "min" p) [a, b] [] pos) S2 (.val (if j < i then j else i)) :=
  je_callB (call_min2 hc) hm PyProof.Rows.boot_min (ja_cons ha (ja_cons hb ja_nil hst2) hst) (oc2 fun T tv σ v u H Q hs q => by
    have e := hs.int
    have e2 := hs.drop.int
    subst e e2
    exact ⟨i, j, rfl, q _ _ (hs.drop.drop.push fun _ _ => sl_int _)⟩) hg (by decide) (by decide) hst hpl
theorem je_intB {p : Pos} {k : Bool} (hm : X.mg "int" = none) (ha : JE X B S e S1 (.val k)) (hg : Gl X "int" := by rfl) (hst : starEach [e] X.env = (false, eval e X.env) :: starEach [] X.env := by rfl) : JE X B S (.Call (.Name "int" p) [e] [] pos) S1 (.val (if k then (1 : Int) else 0)) :=
  je_callT call_int1 hm (by decide +kernel) (ja_cons ha ja_nil hst) (oc1 fun T tv σ v H Q hs q => by
    have e := hs.bool
    subst e
    exact .inr ⟨k, rfl, q _ _ (hs.drop.push fun _ _ => sl_int _)⟩) hg (by decide) (by decide) hst
/-- list(xs): a new list -/
theorem je_list {p : Pos} (hm : X.mg "list" = none) (ha : JE X B S e S1 x) (hl : Lv X.K B S1 x ss) (hg : Gl X "list" := by rfl) (hst : starEach [e] X.env = (false, eval e X.env) :: starEach [] X.env := by rfl) : JE X B S (.Call (.Name "list" p) [e] [] pos) S1 (.own (.lst ss)) :=
  je_callT call_list_of hm (by decide +kernel) (ja_cons ha ja_nil hst) (oc1 fun T tv σ v H Q hs q => by
    obtain ⟨G, as, bs, z⟩ := hs
    obtain ⟨a, vs, rfl, hr, hss⟩ := hl z
    obtain ⟨a1, a2, rfl, _, z'⟩ := z.pop
    exact ⟨a, vs, rfl, .inl hr, fun l hn => q _ _ (z'.newO hn (.lst (hss.mono (Ex.refl G) fun _ h => nomatch h)))⟩) hg (by decide) (by decide) hst
theorem je_ix {s : Slot} {i : Int} (ha : JE X B S a S1 x) (hb : JE X B S1 b S2 (.val i)) (hl : Lv X.K B S2 x ss) (hi : gx ss i = some s) (hs : PlainIx b := by exact fun _ _ => rfl) : JE X B S (.Subscript a b pos) S2 s := fun T tv σ H Q h q =>
  pe1 (pe_ix ix_list pe0 pe0 hs) (ha _ _ _ _ _ h fun v H1 h1 => hb _ _ _ _ _ h1 fun u H2 h2 => by
    have e := h2.int
    subst e
    have h3 := h2.drop
    obtain ⟨G, as, bs, z⟩ := id h3
    obtain ⟨p, vs, rfl, hr, hss⟩ := hl z
    obtain ⟨a1, a2, rfl, _, z'⟩ := z.pop
    rw [gx_ixp] at hi
    cases hj : ixp ss.length i with
    | none => rw [hj] at hi; cases hi
    | some j =>
      rw [hj] at hi
      obtain ⟨w, hw, sw⟩ := hss.get j hi
      refine ⟨p, vs, i, w, rfl, rfl, hr, ?_, q w H2 ⟨G, [] ++ a2, bs, .cons sw z'.tmp, z'.cel, z'.slo, z'.nod, z'.fre, z'.gro, z'.new, z'.sub, z'.frm⟩⟩
      rw [atI_gx, gx_ixp, ← hss.len, hj]
      exact hw)
theorem je_ixv {α : Type} [DecidableEq α] [Datum α] {xs : List α} {t : α} {i : Int} (ha : JE X B S a S1 x) (hb : JE X B S1 b S2 (.val i)) (hl : Lv X.K B S2 x (xs.map Slot.val)) (hi : gx xs i = some t) (hs : PlainIx b := by exact fun _ _ => rfl) : JE X B S (.Subscript a b pos) S2 (.val t) :=
  je_ix ha hb hl (by rw [gx_map, hi]; rfl) hs
/-- a slice's part -/
def JO (X : Cx) (B : Base) (S : Stt) (e : Option Expr) (S' : Stt) (o : Option Int) : Prop := ∀ T tv σ H (Q : Option Int → Hp → Prop), Sta B S T σ tv H → (∀ H', Sta B S' T σ tv H' → Q o H') → ∃ t, PO X e t ∧ t σ H Q
def toOf (X : Cx) (e : Option Expr) : TO := fun σ H Q => ∃ t, PO X e t ∧ t σ H Q
theorem po0 {o : Option Expr} : PO X o (toOf X o) := ⟨fun pins s σ H Q I ⟨_, hp, h⟩ => hp.run pins s σ H Q I h⟩
theorem jo_none : JO X B S none S none := fun T tv σ H Q hs q => ⟨_, po_none, q H hs⟩
theorem jo_some {i : Int} (h : JE X B S e S1 (.val i)) : JO X B S (some e) S1 (some i) := fun T tv σ H Q hs q => ⟨_, po_some pe0, h _ _ _ _ _ hs fun v H' g => by
  have e := g.int
  subst e
  exact ⟨i, rfl, q _ g.drop⟩⟩
theorem cutV_slc (vs : List V) (lo hi : Option Int) : cutV vs lo hi = slc vs lo hi := by unfold cutV slc; rw [sx_eq, sx_eq]
theorem slc_get {α : Type u} {β : Type w} (f : α → β → Prop) {xs : List α} {ys : List β} (lo hi : Option Int) (hl : xs.length = ys.length) (h : ∀ (i : Nat) s u, xs[i]? = some s → ys[i]? = some u → f s u) : ∀ (i : Nat) s u, (slc xs lo hi)[i]? = some s → (slc ys lo hi)[i]? = some u → f s u := fun i s u h1 h2 => by
  unfold slc at h1 h2
  rw [hl] at h1
  rw [List.getElem?_take] at h1 h2
  split at h1
  · rw [if_pos (by assumption)] at h2
    rw [List.getElem?_drop] at h1 h2
    exact h _ _ _ h1 h2
  · cases h1
theorem slc_len {α : Type u} {β : Type w} {xs : List α} {ys : List β} (lo hi : Option Int) (hl : xs.length = ys.length) : (slc xs lo hi).length = (slc ys lo hi).length := by
  unfold slc
  rw [List.length_take, List.length_take, List.length_drop, List.length_drop, hl]
theorem je_slc {lo hi : Option Expr} {l h : Option Int} {p2 : Pos} (ha : JE X B S a S1 x) (hlo : JO X B S1 lo S2 l) (hhi : JO X B S2 hi S3 h) (hl : Lv X.K B S3 x ss) : JE X B S (.Subscript a (.Slice lo hi none p2) pos) S3 (.own (.lst (slc ss l h))) := fun T tv σ H Q g q =>
  pe1 (pe_slice sl_list pe0 po0 po0) (ha _ _ _ _ _ g fun v H1 h1 => hlo _ _ _ _ _ h1 fun H2 h2 => hhi _ _ _ _ _ h2 fun H3 h3 => by
    obtain ⟨G, as, bs, z⟩ := h3
    obtain ⟨p, vs, rfl, hr, hss⟩ := hl z
    obtain ⟨a1, a2, rfl, _, z'⟩ := z.pop
    refine ⟨p, vs, rfl, hr, fun q' hq => ?_⟩
    refine q _ _ (z'.newO hq ?_)
    rw [cutV_slc]
    have cut : SsI G H3 (slc ss l h) (slc vs l h) [] := SsI.of_get (slc_len l h hss.len) (slc_get (fun s u => SlI G H3 s u []) l h hss.len fun i s u h1 h2 => by
      obtain ⟨u', e1, e2⟩ := hss.get i h1
      rw [h2] at e1
      cases e1
      exact e2)
    exact .lst (cut.mono (Ex.refl G) fun _ h => nomatch h))
theorem je_slcv {α : Type} [DecidableEq α] [Datum α] {xs : List α} {lo hi : Option Expr} {l h : Option Int} {p2 : Pos} (ha : JE X B S a S1 x) (hlo : JO X B S1 lo S2 l) (hhi : JO X B S2 hi S3 h) (hl : Lv X.K B S3 x (xs.map Slot.val)) : JE X B S (.Subscript a (.Slice lo hi none p2) pos) S3 (.own (.lst ((slc xs l h).map Slot.val))) :=
  slc_map Slot.val xs l h ▸ je_slc ha hlo hhi hl
end
end J
namespace J
universe u w
open PySem L2
open PySem.W (Datum)
section
variable {B : Base} {S : Stt} {T : List Slot} {σ : St} {tv : List V} {H G : Hp} {as bs : List Addr} {x : Slot} {v : V}
/-- the thing of the k-th cell, and what may be written in its place: less, or as much, owned -/
theorem St0.cellW (z : St0 B S T σ tv H G as bs) {k : Nat} {p : Addr} {c : Cel} (hk : S.cs[k]? = some (p, c)) (hg : c ≠ .gone) :
    ∃ o m, H p = some o ∧ CeI G H c o m ∧ G p = none ∧ (∀ a ∈ m, a ≠ p) ∧ (∀ a ∈ as, a ≠ p) ∧ ∀ {c' : Cel} {o' : HO} {m' : List Addr}, CeI G (upd H p o') c' o' m' → m'.Sublist m → ∃ bs', St0 B ⟨S.sl, S.cs.set k (p, c')⟩ T σ tv (upd H p o') G as bs' := by
  obtain ⟨l, o, m, r, rfl, hp, hc, reb⟩ := z.cel.at k hk hg
  have nd := z.nod
  have pm : (as ++ (l ++ (p :: m) ++ r)).Perm (p :: (m ++ ((as ++ l) ++ r))) := by
    have e1 : (l ++ (p :: m) ++ r).Perm ((p :: m) ++ (l ++ r)) := by
      rw [List.append_assoc]
      exact (List.perm_append_comm (l₁ := l)).trans (by rw [List.append_assoc]; exact List.Perm.append_left _ List.perm_append_comm)
    have e2 : (as ++ ((p :: m) ++ (l ++ r))).Perm ((p :: m) ++ (as ++ (l ++ r))) := by
      rw [← List.append_assoc, ← List.append_assoc (p :: m)]
      exact List.Perm.append_right _ List.perm_append_comm
    have e3 := (List.Perm.append_left as e1).trans e2
    rw [← List.append_assoc as l r] at e3
    exact e3
  have nd2 := pm.nodup_iff.mp nd
  have nd3 := List.nodup_cons.mp nd2
  have hpm : ∀ a ∈ m, a ≠ p := fun a ha e => nd3.1 (by rw [← e]; exact List.mem_append_left _ ha)
  have hpa : ∀ a ∈ as, a ≠ p := fun a ha e => nd3.1 (by rw [← e]; exact List.mem_append_right _ (List.mem_append_left _ (List.mem_append_left _ ha)))
  have hpl : ∀ a ∈ l ++ r, a ≠ p := fun a ha e => nd3.1 (by
    rw [← e]
    rcases List.mem_append.mp ha with h | h
    · exact List.mem_append_right _ (List.mem_append_left _ (List.mem_append_right _ h))
    · exact List.mem_append_right _ (List.mem_append_right _ h))
  have mp : p ∈ as ++ (l ++ (p :: m) ++ r) := pm.mem_iff.mpr List.mem_cons_self
  refine ⟨o, m, hp, hc, (z.fre p mp).1, hpm, hpa, fun {c' o' m'} hc' hs => ⟨l ++ (p :: m') ++ r, ?_⟩⟩
  have sub : (as ++ (l ++ (p :: m') ++ r)).Sublist (as ++ (l ++ (p :: m) ++ r)) := (List.Sublist.refl as).append (((List.Sublist.refl l).append (hs.cons_cons p)).append (List.Sublist.refl r))
  exact ⟨z.tmp.mono (Ex.refl G) fun a ha => upd_ne (hpa a ha), (reb (Ex.refl G) fun a ha => upd_ne (hpl a ha)).1 upd_same hc', z.slo, sub.nodup nd, fun a ha => z.fre a (sub.mem ha), z.gro, z.new,
    fun a u ha => by rw [upd_ne (by intro e; subst e; rw [(z.fre a mp).1] at ha; cases ha)]; exact z.sub a u ha, fun a u ha => by rw [upd_ne (by intro e; subst e; rw [(z.fre a mp).2] at ha; cases ha)]; exact z.frm a u ha⟩
theorem St0.push (z : St0 B S T σ tv H G as bs) (h : SlI G H x v []) : Sta B S (x :: T) σ (v :: tv) H := ⟨G, [] ++ as, bs, .cons h z.tmp, z.cel, z.slo, z.nod, z.fre, z.gro, z.new, z.sub, z.frm⟩
theorem SlI.any' {G H H' : Hp} (h : SlI G H x v []) : SlI G H' x v [] := h.mono (Ex.refl G) fun _ h => nomatch h
theorem SsI.any' {G H H' : Hp} {ss : List Slot} {vs : List V} (h : SsI G H ss vs []) : SsI G H' ss vs [] := h.mono (Ex.refl G) fun _ h => nomatch h
end
section
variable {X : Cx} {B : Base} {S S1 S2 S3 : Stt} {x y z : Slot} {a b e o : Expr} {es : List Expr} {pos apos : Pos} {D : FE} {rest : List Stmt} {ss : List Slot} {p : Addr}
/-- with arguments: the object, then the arguments, then what the method asks -/
theorem je_bm {id : String} {r : V → List V → Hp → VK → Prop} {name : Str} {xs : List Slot} {ss0 : List Slot} (k : Nat) (slot : PySem.Slot "list" name id) (hty : typeOf (.builtin id) = pure (.type "method_descriptor")) (hm : MtR X id r) (ho : JE X B S o S1 (.v (.ref p))) (hk : S1.cs[k]? = some (p, .lst ss0)) (ha : JA X B S1 (e :: es) S2 xs)
    (hr : ∀ T tv σ vs H Q, vs.length = xs.length → Sta B S2 (xs ++ T) σ (vs ++ tv) H → (∀ w H', Sta B S3 (z :: T) σ (w :: tv) H' → Q w H') → r (.ref p) vs H Q)
    (hbase : attributeBase o name X.env (eval o X.env) = eval o X.env := by rfl)
    (hfew : ((backTo pos (starEach (e :: es) X.env)).all (fun x => !x.1) && (backToKw pos (keywordEach [] X.env)).all (fun x => x.1.isSome) && decide ((e :: es).length + ([] : List Keyword).length + (if ([] : List Keyword).isEmpty then 0 else 1) < 30)) = true := by rfl)
    (hline : (apos.endLine == pos.line) = true := by rfl) (hs : starEach (e :: es) X.env = (false, eval e X.env) :: starEach es X.env := by rfl) (hplain : (backTo pos (starEach es X.env)).any (·.1) = false := by rfl) : JE X B S (.Call (.Attribute o name apos) (e :: es) [] pos) S3 z := fun T tv σ H Q h q =>
  pe1 (pe_bm PySem.F.plainAttrs_list slot hty hm pe0 pa0 hbase hfew hline hs hplain) (ho _ _ _ _ _ h fun v H1 h1 => by
    have e := h1.exact
    subst e
    have h2 := h1.drop
    have h2' := h2
    obtain ⟨G, as, bs, z0⟩ := h2'
    obtain ⟨oo, m, hp, hc, _⟩ := z0.cellW hk (by intro e; cases e)
    cases hc with
    | lst hs => exact ⟨.inl ⟨rfl, _, .of hp⟩, ha _ _ _ _ _ h2 fun vs H3 hl h3 => hr _ _ _ _ _ _ hl h3 q⟩)
theorem je_bm0 {id : String} {r : V → List V → Hp → VK → Prop} {name : Str} {ss0 : List Slot} (k : Nat) (slot : PySem.Slot "list" name id) (hty : typeOf (.builtin id) = pure (.type "method_descriptor")) (hm : MtR X id r) (ho : JE X B S o S1 (.v (.ref p))) (hk : S1.cs[k]? = some (p, .lst ss0))
    (hr : ∀ T tv σ H Q, Sta B S1 T σ tv H → (∀ w H', Sta B S3 (z :: T) σ (w :: tv) H' → Q w H') → r (.ref p) [] H Q)
    (hbase : attributeBase o name X.env (eval o X.env) = eval o X.env := by rfl) (hline : (apos.endLine == pos.line) = true := by rfl) : JE X B S (.Call (.Attribute o name apos) [] [] pos) S3 z := fun T tv σ H Q h q =>
  pe1 (pe_bm0 PySem.F.plainAttrs_list slot hty hm pe0 hbase hline) (ho _ _ _ _ _ h fun v H1 h1 => by
    have e := h1.exact
    subst e
    have h2 := h1.drop
    have h2' := h2
    obtain ⟨G, as, bs, z0⟩ := h2'
    obtain ⟨oo, m, hp, hc, _⟩ := z0.cellW hk (by intro e; cases e)
    cases hc with
    | lst hs => exact ⟨.inl ⟨rfl, _, .of hp⟩, hr _ _ _ _ _ h2 q⟩)
theorem je_append (k : Nat) (ho : JE X B S o S1 (.v (.ref p))) {ss0 : List Slot} (hk0 : S1.cs[k]? = some (p, .lst ss0)) (he : JE X B S1 e S2 y) (hk : S2.cs[k]? = some (p, .lst ss)) (hl : ss.length < 16777216) (hy : y.plain = true := by rfl)
    (hbase : attributeBase o "append" X.env (eval o X.env) = eval o X.env := by rfl) (hst : starEach [e] X.env = (false, eval e X.env) :: starEach [] X.env := by rfl)
    (hfew : ((backTo pos (starEach [e] X.env)).all (fun x => !x.1) && (backToKw pos (keywordEach [] X.env)).all (fun x => x.1.isSome) && decide (([e] : List Expr).length + ([] : List Keyword).length + (if ([] : List Keyword).isEmpty then 0 else 1) < 30)) = true := by rfl)
    (hline : (apos.endLine == pos.line) = true := by rfl) : JE X B S (.Call (.Attribute o "append" apos) [e] [] pos) ⟨S2.sl, S2.cs.set k (p, .lst (ss ++ [y]))⟩ (.v .non) :=
  je_bm k PySem.F.slot_list_append PySem.F.type_list_append mt_append ho hk0 (ja_cons he ja_nil hst) (fun T tv σ vs H Q hl' h q => by
    obtain ⟨v, rfl⟩ : ∃ v, vs = [v] := match vs, hl' with | [v], _ => ⟨v, rfl⟩
    obtain ⟨G, as, bs, z0⟩ := id h
    obtain ⟨a1, a2, rfl, hs1, z1⟩ := z0.pop
    obtain rfl := hs1.nil hy
    obtain ⟨oo, m, hp, hc, _, hm1, _, reb⟩ := z1.cellW hk (by intro e; cases e)
    cases hc with
    | @lst _ vs0 _ hs =>
      have hz : vs0.length < sizeLine := by rw [← hs.len]; exact hl
      refine ⟨p, vs0, v, rfl, rfl, hp, hz, ?_⟩
      have hnew : CeI G (upd H p (.lst (vs0 ++ [v]))) (.lst (ss ++ [y])) (.lst (vs0 ++ [v])) (m ++ []) := .lst ((hs.mono (Ex.refl G) fun a ha => upd_ne (hm1 a ha)).app (SsI.one hs1.any'))
      obtain ⟨bs', z3⟩ := reb hnew (by rw [List.append_nil]; exact List.Sublist.refl m)
      exact q _ _ (z3.push .v)) hbase hfew hline hst
/-- pop(): the last one -/
theorem je_pop (k : Nat) (ho : JE X B S o S1 (.v (.ref p))) (hk : S1.cs[k]? = some (p, .lst ss)) (hp : ∀ s ∈ ss, s.plain = true) {s : Slot} (hl : ss.getLast? = some s)
    (hbase : attributeBase o "pop" X.env (eval o X.env) = eval o X.env := by rfl) (hline : (apos.endLine == pos.line) = true := by rfl) : JE X B S (.Call (.Attribute o "pop" apos) [] [] pos) ⟨S1.sl, S1.cs.set k (p, .lst ss.dropLast)⟩ s :=
  je_bm0 k PySem.F.slot_list_pop PySem.F.type_list_pop mt_pop ho hk (fun T tv σ H Q h q => by
    obtain ⟨G, as, bs, z0⟩ := id h
    obtain ⟨oo, m, hpp, hc, _, hm1, _, reb⟩ := z0.cellW hk (by intro e; cases e)
    cases hc with
    | @lst _ vs0 _ hs =>
      obtain rfl := hs.plain hp
      rw [List.getLast?_eq_getElem?] at hl
      obtain ⟨u, hu, su⟩ := hs.get _ hl
      refine ⟨p, vs0, u, rfl, rfl, hpp, by rw [← hs.len]; exact hu, ?_⟩
      have hnew : CeI G (upd H p (.lst vs0.dropLast)) (.lst ss.dropLast) (.lst vs0.dropLast) [] := .lst (SsI.of_get (by rw [List.length_dropLast, List.length_dropLast, hs.len]) fun i s u h1 h2 => by
        rw [List.getElem?_dropLast] at h1 h2
        split at h1
        · split at h2
          · obtain ⟨u', e1, e2⟩ := hs.get i h1
            rw [h2] at e1
            cases e1
            exact e2.any'
          · cases h2
        · cases h1)
      obtain ⟨bs', z3⟩ := reb hnew (List.Sublist.refl _)
      exact q _ _ (z3.push su.any')) hbase hline
theorem je_insert (k : Nat) {i : Int} {e2 : Expr} (ho : JE X B S o S1 (.v (.ref p))) {ss0 : List Slot} (hk0 : S1.cs[k]? = some (p, .lst ss0)) (he : JE X B S1 e S2 (.val i)) (he2 : JE X B S2 e2 S3 y) (hk : S3.cs[k]? = some (p, .lst ss)) (hp : ∀ s ∈ ss, s.plain = true) (hl : ss.length < 16777216) (hi : 0 ≤ i ∧ i < 9223372036854775808) (hy : y.plain = true := by rfl)
    (hbase : attributeBase o "insert" X.env (eval o X.env) = eval o X.env := by rfl) (hst : starEach [e, e2] X.env = (false, eval e X.env) :: starEach [e2] X.env := by rfl) (hst2 : starEach [e2] X.env = (false, eval e2 X.env) :: starEach [] X.env := by rfl)
    (hfew : ((backTo pos (starEach [e, e2] X.env)).all (fun x => !x.1) && (backToKw pos (keywordEach [] X.env)).all (fun x => x.1.isSome) && decide (([e, e2] : List Expr).length + ([] : List Keyword).length + (if ([] : List Keyword).isEmpty then 0 else 1) < 30)) = true := by rfl)
    (hline : (apos.endLine == pos.line) = true := by rfl) (hplain : (backTo pos (starEach [e2] X.env)).any (·.1) = false := by rfl) : JE X B S (.Call (.Attribute o "insert" apos) [e, e2] [] pos) ⟨S3.sl, S3.cs.set k (p, .lst (ss.take i.toNat ++ [y] ++ ss.drop i.toNat))⟩ (.v .non) :=
  je_bm k PySem.F.slot_list_insert PySem.F.type_list_insert mt_insert ho hk0 (ja_cons he (ja_cons he2 ja_nil hst2) hst) (fun T tv σ vs H Q hl' h q => by
    obtain ⟨v, u, rfl⟩ : ∃ v u, vs = [v, u] := match vs, hl' with | [v, u], _ => ⟨v, u, rfl⟩
    have e := h.int
    subst e
    obtain ⟨G, as, bs, z0⟩ := h.drop
    obtain ⟨a1, a2, rfl, hs1, z1⟩ := z0.pop
    obtain rfl := hs1.nil hy
    obtain ⟨oo, m, hpp, hc, _, hm1, _, reb⟩ := z1.cellW hk (by intro e; cases e)
    cases hc with
    | @lst _ vs0 _ hs =>
      obtain rfl := hs.plain hp
      have hz : vs0.length < sizeLine := by rw [← hs.len]; exact hl
      refine ⟨p, vs0, i, u, rfl, rfl, hpp, hz, hi.1, hi.2, ?_⟩
      have tk : SsI G (upd H p (.lst (vs0.take i.toNat ++ [u] ++ vs0.drop i.toNat))) (ss.take i.toNat) (vs0.take i.toNat) [] := SsI.of_get (by rw [List.length_take, List.length_take, hs.len]) fun i s u h1 h2 => by
        rw [List.getElem?_take] at h1 h2
        split at h1
        · rw [if_pos (by assumption)] at h2
          obtain ⟨u', e1, e2⟩ := hs.get _ h1
          rw [h2] at e1
          cases e1
          exact e2.any'
        · cases h1
      have dr : SsI G (upd H p (.lst (vs0.take i.toNat ++ [u] ++ vs0.drop i.toNat))) (ss.drop i.toNat) (vs0.drop i.toNat) [] := SsI.of_get (by rw [List.length_drop, List.length_drop, hs.len]) fun i s u h1 h2 => by
        rw [List.getElem?_drop] at h1 h2
        obtain ⟨u', e1, e2⟩ := hs.get _ h1
        rw [h2] at e1
        cases e1
        exact e2.any'
      have hnew : CeI G (upd H p (.lst (vs0.take i.toNat ++ [u] ++ vs0.drop i.toNat))) (.lst (ss.take i.toNat ++ [y] ++ ss.drop i.toNat)) (.lst (vs0.take i.toNat ++ [u] ++ vs0.drop i.toNat)) [] := .lst ((tk.app (SsI.one hs1.any')).app dr)
      obtain ⟨bs', z3⟩ := reb hnew (List.Sublist.refl _)
      exact q _ _ (z3.push .v)) hbase hfew hline hst hplain
theorem jg_sub (k : Nat) {i : Int} {j : Nat} {ix : Expr} (ho : JE X B S o S1 (.v (.ref p))) (hi : JE X B S1 ix S2 (.val i)) (hk : S2.cs[k]? = some (p, .lst ss)) (hj : ixp ss.length i = some j) (hp : ∀ s ∈ ss, s.plain = true) (hy : y.plain = true := by rfl)
    (ha : ∀ v, assign (.Subscript o ix pos) X.env v = (do
      let ov ← holding [v] (eval o X.env)
      let iv ← holding [v, ov] (eval ix X.env)
      standAt pos
      holding [v, ov, iv] (setItem ov iv v)
      release [v, ov, iv] []) := by intro _; rfl) : JG X B S (.Subscript o ix pos) y ⟨S2.sl, S2.cs.set k (p, .lst (ss.set j y))⟩ [] := fun T tv σ v H Q h q =>
  pg1 (pg_sub pe0 pe0 set_list ha) (ho _ _ _ _ _ h fun w H1 h1 => by
    have e := h1.exact
    subst e
    refine hi _ _ _ _ _ h1 fun w H2 h2 => ?_
    have e := h2.int
    subst e
    obtain ⟨G, as, bs, z0⟩ := h2.drop.drop
    obtain ⟨a1, a2, rfl, hs1, z1⟩ := z0.pop
    obtain rfl := hs1.nil hy
    obtain ⟨oo, m, hpp, hc, _, hm1, _, reb⟩ := z1.cellW hk (by intro e; cases e)
    cases hc with
    | @lst _ vs0 _ hs =>
      obtain rfl := hs.plain hp
      refine ⟨p, vs0, i, j, rfl, rfl, hpp, by rw [← hs.len]; exact hj, ?_⟩
      have hnew : CeI G (upd H2 p (.lst (vs0.set j v))) (.lst (ss.set j y)) (.lst (vs0.set j v)) [] := .lst (SsI.of_get (by rw [List.length_set, List.length_set, hs.len]) fun n s u h1 h2 => by
        rw [List.getElem?_set] at h1 h2
        have hlen := hs.len
        by_cases e : j = n
        · rw [if_pos e] at h1 h2
          split at h1
          · rw [if_pos (by omega)] at h2
            cases h1
            cases h2
            exact hs1.any'
          · cases h1
        · rw [if_neg e] at h1 h2
          obtain ⟨u', e1, e2⟩ := hs.get _ h1
          rw [h2] at e1
          cases e1
          exact e2.any')
      obtain ⟨bs', z3⟩ := reb hnew (List.Sublist.refl _)
      exact q _ _ (Chg.refl _ _) z3.sta)
/-- any target -/
theorem js_asg {tg : Expr} (he : JE X B S e S1 x) {ws : List Nat} (hg : JG X B S1 tg x S2 ws) (k : JS X B S2 rest D) (hs : swapsWithSole [tg] e pos.line X.env = pure false := by rfl) (hw : swappedStores [tg] e X.env = pure none := by rfl) (h1 : (assignEach [tg] X.env).map (·.2) = [assign tg X.env] := by rfl) : JS X B S (.Assign [tg] e pos :: rest) D :=
  js_step (ps_asg pe0 pg0 hs hw h1) fun T tv σ H h => he _ _ _ _ _ h fun v H1 h1 => hg _ _ _ _ _ _ h1 fun σ' H' _ h2 => k _ _ _ _ h2
end
end J
namespace J
universe u w
open PySem L2
open PySem.W (Datum DatumOrd Holds HoldAll)
section
variable {X : Cx} {pins : List (Addr × Obj)} {σ : St} {H : Hp} {s : Shared}
theorem holds_of {α : Type} [DecidableEq α] [Datum α] {t : α} {v : V} {u : Value} (I : Inv X pins σ H s) (h : Dq H v (Datum.toD t)) (r : RelV v u) : Holds s.heap u t := Dp.reads I _ _ _ (dq_dp h) r
theorem holdAll_of {α : Type} [DecidableEq α] [Datum α] {ts : List α} {vs : List V} {us : List Value} (I : Inv X pins σ H s) (h : DqAll H vs (ts.map Datum.toD)) (r : Vals vs us) : HoldAll s.heap us ts := Dp.readsAll I _ _ _ (dqAll_dp h) r
/-- the reading of a list's items: where it stands, what it holds -/
def LD (K : PySem.W.Frag) (H : Hp) (v : V) {α : Type} [DecidableEq α] [Datum α] (ts : List α) : Prop := ∃ a vs, v = .ref a ∧ SqL K H a vs ∧ DqAll H vs (ts.map Datum.toD)
def rEqT : R2 := fun x y H Q => ∃ (α : Type) (i1 : DecidableEq α) (i2 : Datum α) (t r : α), Dq H x (Datum.toD t) ∧ Dq H y (Datum.toD r) ∧ Datum.depth α ≤ 60 ∧ Q (.bl (decide (t = r))) H
def rNeT : R2 := fun x y H Q => ∃ (α : Type) (i1 : DecidableEq α) (i2 : Datum α) (t r : α), Dq H x (Datum.toD t) ∧ Dq H y (Datum.toD r) ∧ Datum.depth α ≤ 60 ∧ Q (.bl (decide (t ≠ r))) H
def rNotInT (K : PySem.W.Frag) : R2 := fun x y H Q => ∃ (α : Type) (i1 : DecidableEq α) (i2 : Datum α) (t : α) (ts : List α), Dq H x (Datum.toD t) ∧ LD K H y ts ∧ Datum.depth α ≤ 60 ∧ Q (.bl (decide (t ∉ ts))) H
theorem op_eqT (hu : X.A.units + 64 < cLine) : OpR X (compareOp .Eq) rEqT := by
  intro pins s σ H x y v u Q I rx ry h
  obtain ⟨α, i1, i2, t, r, h1, h2, hd, q⟩ := h
  exact PySem.W.eq_datum (holds_of I h1 rx) (holds_of I h2 ry) (by omega) ⟨.bl _, H, I, rfl, q⟩
theorem op_neT (hu : X.A.units + 64 < cLine) : OpR X (compareOp .NotEq) rNeT := by
  intro pins s σ H x y v u Q I rx ry h
  obtain ⟨α, i1, i2, t, r, h1, h2, hd, q⟩ := h
  exact PySem.W.ne_datum (holds_of I h1 rx) (holds_of I h2 ry) (by omega) ⟨.bl _, H, I, rfl, q⟩
theorem op_notInT (hu : X.A.units + 64 < cLine) : OpR X (compareOp .NotIn) (rNotInT X.K) := by
  intro pins s σ H x y v u Q I rx ry h
  obtain ⟨α, i1, i2, t, ts, h1, ⟨a, vs, rfl, hs, ha⟩, hd, q⟩ := h
  cases ry
  obtain ⟨its, r, pl, hz⟩ := I.list hs
  exact PySem.W.notIn_list_datum pl.isList (by simpa using holdAll_of I ha r) (holds_of I h1 rx) (by omega) ⟨.bl _, H, I, rfl, q⟩
/-- xs.index(x), x there; xs.count(x) -/
def rIdxT (K : PySem.W.Frag) : V → List V → Hp → VK → Prop := fun x vs H Q => ∃ (α : Type) (i1 : DecidableEq α) (i2 : Datum α) (t : α) (ts : List α) (y : V), vs = [y] ∧ Dq H y (Datum.toD t) ∧ LD K H x ts ∧ Datum.depth α ≤ 60 ∧ t ∈ ts ∧ Q (.int (ts.idxOf t : Nat)) H
theorem mt_idxT (hu : X.A.units + 64 < cLine) : MtR X "list.index" (rIdxT X.K) := by
  intro pins s σ H x xs v us Q I rx rxs h
  obtain ⟨α, i1, i2, t, ts, y, rfl, h1, ⟨a, vs, rfl, hs, ha⟩, hd, hm, q⟩ := h
  cases rx
  obtain ⟨u, rfl, ru⟩ := vals1 rxs
  obtain ⟨its, r, pl, hz⟩ := I.list hs
  have hl : ts.length ≤ sizeLine := by
    have e := ((dqAll_ss (G := H) (H := H) ha).len)
    rw [List.length_map] at e
    omega
  exact PySem.W.index_list_datum pl.isList (holdAll_of I ha r) (holds_of I h1 ru) (by omega) hl hm ⟨.int _, H, I.tok _, ⟨_, rfl⟩, q⟩
/-- min(xs), max(xs): an item -/
def rMinT (K : PySem.W.Frag) : List V → Hp → VK → Prop := fun ws H Q => ∃ (α : Type) (i1 : DecidableEq α) (i2 : DatumOrd α) (t : α) (ts : List α) (a : Addr) (vs : List V), ws = [.ref a] ∧ SqL K H a vs ∧ DqAll H vs ((t :: ts).map (@Datum.toD α i1 i2.toDatum)) ∧ @Datum.depth α i1 i2.toDatum ≤ 60 ∧ ∀ (i : Nat) v, vs[i]? = some v → (t :: ts : List α)[i]? = some (PySem.W.minOf t ts) → Q v H
theorem at_same {α : Type} [DecidableEq α] [DatumOrd α] {xs : List α} {vs : List V} {us : List Value} {h' : Heap} (I : Inv X pins σ H s) (ha : DqAll H vs (xs.map Datum.toD)) (r : Vals vs us) {i : Nat} {u : Value} (hi : us[i]? = some u) {m : α} (hm : Holds h' u m) (k : ∀ b o, s.heap.get? b = some o → h'.get? b = some o) : ∃ v, vs[i]? = some v ∧ RelV v u ∧ xs[i]? = some m := by
  have hl := r.length
  have hx := (dqAll_ss (G := H) (H := H) ha).len
  rw [List.length_map] at hx
  have hb := (List.getElem?_eq_some_iff.mp hi).1
  have hv : vs[i]? = some vs[i] := List.getElem?_eq_getElem (by omega)
  obtain ⟨u', e1, e2⟩ := r.get hv
  rw [hi] at e1
  cases e1
  refine ⟨vs[i], hv, e2, ?_⟩
  have hxi : xs[i]? = some xs[i] := List.getElem?_eq_getElem (by omega)
  have hxm : (xs.map Slot.val)[i]? = some (Slot.val xs[i]) := by rw [List.getElem?_map, hxi]; rfl
  obtain ⟨v', f1, f2⟩ := (dqAll_ss (G := H) (H := H) ha).get i hxm
  rw [hv] at f1
  cases f1
  cases f2 with
  | val d =>
    obtain ⟨as, h1⟩ := holds_of I d e2
    obtain ⟨bs, h2⟩ := hm
    have e := PySem.W.alike_unique _ _ _ _ _ (DatumOrd.alike xs[i] m) (PyProof.Rows.Reads.keeps k h1) h2
    have e3 := Datum.eqv xs[i] m
    rw [e, Datum.eqv, decide_eq_true rfl] at e3
    rw [hxi, of_decide_eq_true e3.symm]
theorem cr_minT (hu : X.A.units + 64 < cLine) (hc : X.calm = true) : CallR X (.builtin "min") (rMinT X.K) := by
  intro pins s σ H ws us Q I r h
  obtain ⟨α, i1, i2, t, ts, a, vs, rfl, hs, ha, hd, q⟩ := h
  obtain ⟨its, rv, pl, _⟩ := I.list hs
  rw [Vals.ref1 r]
  exact PySem.W.min_list_datum (I.ok.hd hc) pl.isList (by simpa using holdAll_of I ha rv) (by omega) fun i u h' tk hi hm hk => by
    obtain ⟨v, h1, h2, h3⟩ := at_same I ha rv (by simpa using hi) hm hk
    exact ⟨v, H, I.kept hk, h2, q i v h1 h3⟩
end
def Dv {α : Type} [DecidableEq α] [Datum α] (B : Base) (S : Stt) (x : Slot) (t : α) : Prop := ∀ {T σ v tv H G as bs}, St0 B S (x :: T) σ (v :: tv) H G as bs → Dq H v (Datum.toD t)
section
variable {B : Base} {S : Stt} {α : Type} [DecidableEq α] [Datum α] {t : α}
theorem dv_fz {x : Slot} (f : FzS x (Datum.toD t)) : Dv B S x t := fun z => by
  obtain ⟨a1, a2, _, h, z'⟩ := z.pop
  exact f.dq h z.sub fun _ _ => rfl
theorem dv_val : Dv B S (.val t) t := dv_fz .val
theorem dv_cell (k : Nat) {p : Addr} {c : Cel} (hk : S.cs[k]? = some (p, c)) (f : FzC c (Datum.toD t)) : Dv B S (.v (.ref p)) t := fun z => by
  obtain ⟨a1, a2, _, h, z'⟩ := z.pop
  cases h with
  | v =>
    obtain ⟨l, o, m, r, _, hp, hc, _⟩ := z.cel.at k hk (by intro e; subst e; cases f)
    exact f.dq hc hp z.sub fun _ _ => rfl
theorem dv_cellL {xs : List α} (k : Nat) {p : Addr} (hk : S.cs[k]? = some (p, .lst (xs.map Slot.val))) : Dv B S (.v (.ref p)) xs := dv_cell k hk (fz_val xs)
theorem dv_ownL {xs : List α} : Dv B S (.own (.lst (xs.map Slot.val))) xs := dv_fz (.own (fz_val xs))
theorem lv_ld {xs : List α} {x : Slot} {K : PySem.W.Frag} (hl : Lv K B S x (xs.map Slot.val)) {T σ v tv H G as bs} (z : St0 B S (x :: T) σ (v :: tv) H G as bs) : LD K H v xs := by
  obtain ⟨a, vs, rfl, hr, hss⟩ := hl z
  exact ⟨a, vs, rfl, hr, dqAll_mono z.sub (ss_dqAll hss)⟩
end
section
variable {X : Cx} {B : Base} {S S1 S2 S3 : Stt} {x y z : Slot} {a b e o : Expr} {es : List Expr} {pos apos : Pos} {D : FE} {rest : List Stmt} {α : Type} [DecidableEq α] [Datum α] {t r : α} {xs : List α} {k : Nat}
theorem o2_eq (h1 : Dv B S x t) (h2 : Dv B S y r) (hd : Datum.depth α ≤ 60) : O2 X B rEqT S x y S (.val (decide (t = r))) := fun T tv σ v u H Q h q => by
  obtain ⟨G, as, bs, z⟩ := h
  obtain ⟨a1, a2, rfl, _, z'⟩ := id z.pop
  exact ⟨α, _, _, t, r, h1 z', h2 z, hd, q _ _ (z'.sta.drop.push fun _ _ => sl_bl _)⟩
theorem o2_ne (h1 : Dv B S x t) (h2 : Dv B S y r) (hd : Datum.depth α ≤ 60) : O2 X B rNeT S x y S (.val (decide (t ≠ r))) := fun T tv σ v u H Q h q => by
  obtain ⟨G, as, bs, z⟩ := h
  obtain ⟨a1, a2, rfl, _, z'⟩ := id z.pop
  exact ⟨α, _, _, t, r, h1 z', h2 z, hd, q _ _ (z'.sta.drop.push fun _ _ => sl_bl _)⟩
theorem jt_eq' (hr : Room k X.A) (ha : JE X B S a S1 x) (hb : JE X B S1 b S2 y) (h1 : Dv B S2 x t) (h2 : Dv B S2 y r) (hd : Datum.depth α ≤ 60 := by decide) : JT X B S (.Compare a [.Eq] [b] pos) S2 (decide (t = r)) := jt_cmp (op_eqT hr.units) ha hb (o2_eq h1 h2 hd) (nomark _)
theorem jt_ne' (hr : Room k X.A) (ha : JE X B S a S1 x) (hb : JE X B S1 b S2 y) (h1 : Dv B S2 x t) (h2 : Dv B S2 y r) (hd : Datum.depth α ≤ 60 := by decide) : JT X B S (.Compare a [.NotEq] [b] pos) S2 (decide (t ≠ r)) := jt_cmp (op_neT hr.units) ha hb (o2_ne h1 h2 hd) (nomark _)
theorem jc_eq (hr : Room k X.A) (ha : JE X B S a S1 x) (hb : JE X B S1 b S2 y) (h1 : Dv B S2 x t) (h2 : Dv B S2 y r) (hd : Datum.depth α ≤ 60 := by decide) : JE X B S (.Compare a [.Eq] [b] pos) S2 (.val (decide (t = r))) := je_cmp (op_eqT hr.units) ha hb (o2_eq h1 h2 hd) (nomark _)
theorem o2_notIn (h1 : Dv B S x t) (h2 : Lv X.K B S y (xs.map Slot.val)) (hd : Datum.depth α ≤ 60) : O2 X B (rNotInT X.K) S x y S (.val (decide (t ∉ xs))) := fun T tv σ v u H Q h q => by
  obtain ⟨G, as, bs, z⟩ := h
  obtain ⟨a1, a2, rfl, _, z'⟩ := id z.pop
  exact ⟨α, _, _, t, xs, h1 z', lv_ld h2 z, hd, q _ _ (z'.sta.drop.push fun _ _ => sl_bl _)⟩
theorem jt_notIn (hr : Room k X.A) (ha : JE X B S a S1 x) (hb : JE X B S1 b S2 y) (h1 : Dv B S2 x t) (h2 : Lv X.K B S2 y (xs.map Slot.val)) (hd : Datum.depth α ≤ 60 := by decide) (hm : behindInMarks .NotIn b = false := by rfl) : JT X B S (.Compare a [.NotIn] [b] pos) S2 (decide (t ∉ xs)) := jt_cmp (op_notInT hr.units) ha hb (o2_notIn h1 h2 hd) hm
theorem je_minT {β : Type} [DecidableEq β] [DatumOrd β] {t : β} {ts : List β} {p : Pos} (hr : Room k X.A) (hm : X.mg "min" = none) (ha : JE X B S e S1 x) (hl : Lv X.K B S1 x ((t :: ts).map Slot.val)) (hc : X.calm = true := by rfl) (hd : Datum.depth β ≤ 60 := by decide) (hg : Gl X "min" := by rfl) (hst : starEach [e] X.env = (false, eval e X.env) :: starEach [] X.env := by rfl) : JE X B S (.Call (.Name "min" p) [e] [] pos) S1 (.val (PySem.W.minOf t ts)) :=
  je_callB (cr_minT hr.units hc) hm PyProof.Rows.boot_min (ja_cons ha ja_nil hst) (oc1 fun T tv σ v H Q hs q => by
    obtain ⟨G, as, bs, z⟩ := id hs
    obtain ⟨a, vs, rfl, hr, hss⟩ := hl z
    obtain ⟨a1, a2, rfl, _, z'⟩ := id z.pop
    refine ⟨β, _, _, t, ts, a, vs, rfl, hr, dqAll_mono z.sub (ss_dqAll hss), hd, fun i v h1 h2 => ?_⟩
    have hx : ((t :: ts).map Slot.val)[i]? = some (Slot.val (PySem.W.minOf t ts)) := by rw [List.getElem?_map, h2] <;> rfl
    obtain ⟨v', e1, e2⟩ := hss.get i hx
    rw [h1] at e1
    cases e1
    exact q _ _ (z'.push e2)) hg (by decide) (by decide) hst
end
end J
namespace J
universe u w
open PySem L2
open PySem.W (Datum DatumOrd Holds HoldAll T3 T4)
section
variable {X : Cx} {B : Base} {S S1 S2 S3 : Stt} {x y z : Slot} {a b e o : Expr} {es : List Expr} {pos apos : Pos} {D : FE} {rest : List Stmt} {k : Nat} {tg : Expr}
/-- a list: a value, or one that has a name and is left as it is -/
theorem ji_list {α : Type} [DecidableEq α] [Datum α] {xs : List α} {ok : Stt → Prop} (ha : JE X B S e S1 x) (hl : Lv X.K B S1 x (xs.map Slot.val)) (hok : ∀ S, ok S → Lv X.K B S x (xs.map Slot.val)) : JI X B S tg e S1 [x] (xs.map Slot.val) ok := fun T tv σ H R hs q =>
  pi1 (pi_list pe0) (ha _ _ _ _ _ hs fun v H1 h1 => by
    obtain ⟨G, as, bs, z⟩ := id h1
    obtain ⟨p, vs, rfl, hr, hss⟩ := hl z
    refine ⟨p, rfl, ⟨vs, hr⟩, q (Itl X.K p) [.ref p] H1 rfl h1 ⟨fun S T σ tv H i s hS hi h => ?_, fun S T σ tv H hS h => ?_⟩⟩
    · obtain ⟨G, as, bs, z⟩ := id h
      obtain ⟨p', vs', e, hr', hss'⟩ := hok S hS z
      cases e
      obtain ⟨u, hu, su⟩ := hss'.get i hi
      refine ⟨⟨vs', u, hr', hu⟩, fun v H' hy => ?_⟩
      obtain ⟨rfl, hy⟩ := hy
      have e := hy vs' (hr')
      rw [hu] at e
      cases e
      exact z.push su
    · obtain ⟨G, as, bs, z⟩ := id h
      obtain ⟨p', vs', e, hr', hss'⟩ := hok S hS z
      cases e
      exact ⟨vs', hr', Nat.le_of_eq hss'.len.symm⟩)
theorem ji_val {α : Type} [DecidableEq α] [Datum α] {xs : List α} (ha : JE X B S e S1 (.val xs)) : JI X B S tg e S1 [.val xs] (xs.map Slot.val) (fun _ => True) := ji_list ha lv_val fun _ _ => lv_val
theorem ji_own {α : Type} [DecidableEq α] [Datum α] {xs : List α} (ha : JE X B S e S1 (.own (.lst (xs.map Slot.val)))) : JI X B S tg e S1 [.own (.lst (xs.map Slot.val))] (xs.map Slot.val) (fun _ => True) := ji_list ha lv_own' fun _ _ => lv_own'
theorem ji_cell {α : Type} [DecidableEq α] [Datum α] {xs : List α} {p : Addr} (k : Nat) (ha : JE X B S e S1 (.v (.ref p))) (hk : S1.cs[k]? = some (p, .lst (xs.map Slot.val))) : JI X B S tg e S1 [.v (.ref p)] (xs.map Slot.val) (fun S => S.cs[k]? = some (p, .lst (xs.map Slot.val))) := ji_list ha (lv_cell' k hk) fun _ h => lv_cell' k h
theorem ji_pre {ns : List Int} {p : Addr} (ha : JE X B S e S1 (.v (.ref p))) (h : SqL X.K B.G p (ns.map V.int)) : JI X B S tg e S1 [.v (.ref p)] (ns.map Slot.val) (fun _ => True) := ji_list ha (lv_pre h) fun _ _ => lv_pre h
/-- lo, lo + 1, .. -/
def rng (lo : Int) (n : Nat) : List Int := (List.range n).map fun i : Nat => lo + (i : Int)
theorem rng_len (lo : Int) (n : Nat) : (rng lo n).length = n := by unfold rng; rw [List.length_map, List.length_range]
theorem rng_get {lo : Int} {n i : Nat} {m : Int} (h : (rng lo n)[i]? = some m) : i < n ∧ m = lo + i := by
  unfold rng at h
  rw [List.getElem?_map] at h
  cases q : (List.range n)[i]? with
  | none => rw [q] at h; cases h
  | some j =>
    rw [q] at h
    cases h
    obtain ⟨h1, h2⟩ := List.getElem?_eq_some_iff.mp q
    rw [List.getElem_range] at h2
    subst h2
    rw [List.length_range] at h1
    exact ⟨h1, rfl⟩
theorem wk_range {lo : Int} {n : Nat} : Wk X B [] [] ((rng lo n).map Slot.val) (fun _ => True) (Itr lo n) :=
  ⟨fun S T σ tv H i s _ hi h => by
    rw [List.getElem?_map] at hi
    cases q : (rng lo n)[i]? with
    | none => rw [q] at hi; cases hi
    | some m =>
      rw [q] at hi
      cases hi
      obtain ⟨h1, rfl⟩ := rng_get q
      exact ⟨h1, fun v H' ⟨e1, e2⟩ => by
        subst e1 e2
        exact h.push fun _ _ => sl_int _⟩, fun S T σ tv H _ _ => by
    rw [List.length_map, rng_len]
    exact Nat.le_refl _⟩
theorem ji_range1 {p : Pos} {j : Int} (hm : X.mg "range" = none) (ha : JE X B S e S1 (.val j)) (hj : -(4611686018427387904 : Int) ≤ j ∧ j < 4611686018427387904) (hg : Gl X "range" := by rfl) (hst : starEach [e] X.env = (false, eval e X.env) :: starEach [] X.env := by rfl) (hs : starEach [e] X.env = [(false, eval e X.env)] := by rfl) : JI X B S tg (.Call (.Name "range" p) [e] [] pos) S1 [] ((rng 0 j.toNat).map Slot.val) (fun _ => True) := fun T tv σ H R h q =>
  pi1 (pi_range1 hg hm pa0 hs) (ja_cons ha ja_nil hst _ _ _ _ _ h fun vs H1 hl h1 => by
    obtain ⟨v, rfl⟩ : ∃ v, vs = [v] := match vs, hl with | [v], _ => ⟨v, rfl⟩
    have e := h1.int
    subst e
    exact ⟨j, rfl, hj.1, hj.2, q _ [] _ rfl h1.drop wk_range⟩)
/-- enumerate -/
def enu {α : Type} (i : Int) : List α → List (Int × α)
  | [] => []
  | x :: xs => (i, x) :: enu (i + 1) xs
theorem enu_len {α : Type} : ∀ (i : Int) (xs : List α), (enu i xs).length = xs.length
  | _, [] => rfl
  | i, _ :: xs => congrArg Nat.succ (enu_len (i + 1) xs)
theorem enu_get {α : Type} : ∀ (i : Int) (xs : List α) (n : Nat) {p : Int × α}, (enu i xs)[n]? = some p → p.1 = i + n ∧ xs[n]? = some p.2
  | _, [], _, _, h => by simp [enu] at h
  | i, x :: xs, 0, p, h => by
    have e : (i, x) = p := Option.some.inj h
    subst e
    exact ⟨by simp, rfl⟩
  | i, x :: xs, n + 1, p, h => by
    obtain ⟨h1, h2⟩ := enu_get (i + 1) xs n (show (enu (i + 1) xs)[n]? = some p from h)
    exact ⟨by rw [h1]; omega, h2⟩
/-- a new pair -/
theorem push_pair {α β : Type} [DecidableEq α] [Datum α] [DecidableEq β] [Datum β] {T : List Slot} {σ : St} {tv : List V} {H G : Hp} {as bs : List Addr} (z : St0 B S T σ tv H G as bs) {p : Addr} (hp : H p = none) {u v : V} {t : α} {r : β} (h1 : Dq G u (Datum.toD t)) (h2 : Dq G v (Datum.toD r)) : Sta B S (.val (t, r) :: T) σ (.ref p :: tv) (upd H p (.tup [u, v])) :=
  z.newG hp (.val (show Dq _ _ (PyData.tuple [Datum.toD t, Datum.toD r]) from .tup upd_same (.cons (dq_mono (ex_upd (Ex.refl G) (ex_none z.sub hp)) h1) (.cons (dq_mono (ex_upd (Ex.refl G) (ex_none z.sub hp)) h2) .nil))))
theorem sl_dq {α : Type} [DecidableEq α] [Datum α] {G H : Hp} {u : V} {as : List Addr} {t : α} (h : SlI G H (.val t) u as) : Dq G u (Datum.toD t) := by
  cases h with
  | val h => exact h
theorem ji_enum {α : Type} [DecidableEq α] [Datum α] {xs : List α} {ok : Stt → Prop} {p tpos : Pos} {elts : List Expr} {kk : Nat} (hm : X.mg "enumerate" = none) (ha : JE X B S e S1 x) (hl : Lv X.K B S1 x (xs.map Slot.val)) (hok : ∀ S, ok S → Lv X.K B S x (xs.map Slot.val)) (hg : Gl X "enumerate" := by rfl) (hst : starEach [e] X.env = (false, eval e X.env) :: starEach [] X.env := by rfl) (hs : starEach [e] X.env = [(false, eval e X.env)] := by rfl) :
    JI X B S (.Tuple elts kk tpos) (.Call (.Name "enumerate" p) [e] [] pos) S1 [x] ((enu 0 xs).map Slot.val) ok := fun T tv σ H R h q =>
  pi1 (pi_enum hg hm pa0 hs) (ja_cons ha ja_nil hst _ _ _ _ _ h fun vs H1 hl' h1 => by
    obtain ⟨v, rfl⟩ : ∃ v, vs = [v] := match vs, hl' with | [v], _ => ⟨v, rfl⟩
    obtain ⟨G, as, bs, z⟩ := id h1
    obtain ⟨p, vs, rfl, hr, hss⟩ := hl z
    refine ⟨p, vs, rfl, hr, q (Ite X.K p) [.ref p] H1 rfl h1 ⟨fun S T σ tv H i s hS hi h => ?_, fun S T σ tv H hS h => ?_⟩⟩
    · obtain ⟨G, as, bs, z⟩ := id h
      obtain ⟨p', vs', e, hr', hss'⟩ := hok S hS z
      cases e
      rw [List.getElem?_map] at hi
      cases qe : (enu 0 xs)[i]? with
      | none => rw [qe] at hi; cases hi
      | some pr =>
        rw [qe] at hi
        cases hi
        obtain ⟨h1, h2⟩ := enu_get 0 xs i qe
        obtain ⟨u, hu, su⟩ := hss'.get i (show (xs.map Slot.val)[i]? = some (Slot.val pr.2) by rw [List.getElem?_map, h2] <;> rfl)
        refine ⟨⟨vs', u, hr', hu⟩, fun v H' hy => ?_⟩
        obtain ⟨T', x', rfl, hT, rfl, hy⟩ := hy
        have e := hy vs' (hr')
        rw [hu] at e
        cases e
        have ei : pr = (((i : Nat) : Int), pr.2) := Prod.ext (by rw [h1]; simp) rfl
        rw [ei]
        exact push_pair z hT (.int _) (sl_dq su)
    · obtain ⟨G, as, bs, z⟩ := id h
      obtain ⟨p', vs', e, hr', hss'⟩ := hok S hS z
      cases e
      refine ⟨vs', hr', Nat.le_of_eq ?_⟩
      have := hss'.len
      rw [List.length_map] at this ⊢
      rw [enu_len]
      exact this.symm)
structure tgsOf (X : Cx) (ts : List Expr) (vs : List V) (σ : St) (H : Hp) (Q : St → Hp → Prop) : Prop where
  run : ∀ pins s us, Inv X pins σ H s → Vals vs us → wpAny (model X.prog X.w) X.A (assignInOrder ((assignEach ts X.env).map (·.2)) us) (fun _ s' => ∃ σ' H', Inv X pins σ' H' s' ∧ Q σ' H') X.xe s
theorem pgs0 {ts : List Expr} : PGs X ts (tgsOf X ts) := ⟨fun pins s _ _ _ us _ I r h => h.run pins s us I r⟩
theorem pgs1 {ts : List Expr} {t : TGs} (h : PGs X ts t) {vs : List V} {σ : St} {H : Hp} {Q : St → Hp → Prop} (q : t vs σ H Q) : tgsOf X ts vs σ H Q := ⟨fun pins s us I r => h.run pins s σ H vs us Q I r q⟩
def JGs (X : Cx) (B : Base) (S : Stt) (ts : List Expr) (xs : List Slot) (S' : Stt) (ws : List Nat) : Prop := ∀ T tv σ vs H Q, vs.length = xs.length → Sta B S (xs ++ T) σ (vs ++ tv) H → (∀ σ' H', Chg ws σ σ' → Sta B S' T σ' tv H' → Q σ' H') → tgsOf X ts vs σ H Q
theorem jgs_nil : JGs X B S [] [] S [] := fun T tv σ vs H Q hl h q => match vs, hl with
  | [], _ => pgs1 pgs_nil ⟨rfl, q _ _ (Chg.refl _ _) h⟩
theorem jgs_cons {ts : List Expr} {xs : List Slot} {ws ws' : List Nat} (h1 : JG X B S tg x S1 ws) (h2 : JGs X B S1 ts xs S2 ws') (hs : (assignEach (tg :: ts) X.env).map (·.2) = assign tg X.env :: (assignEach ts X.env).map (·.2) := by rfl) : JGs X B S (tg :: ts) (x :: xs) S2 (ws ++ ws') := fun T tv σ vs H Q hl h q => match vs, hl with
  | v :: vs, hl => pgs1 (pgs_cons pg0 pgs0 hs) ⟨v, vs, rfl, h1 _ _ _ _ _ _ h fun σ' H' c g => h2 _ _ _ _ _ _ (Nat.succ.inj hl) g fun σ2 H2 c2 g2 => q σ2 H2 (c.app c2) g2⟩
/-- a tuple's items -/
theorem jg_tup {es : List Expr} {kk : Nat} {α : Type} [DecidableEq α] [Datum α] {t : α} {ds : List PyData} {xs : List Slot} (ht : Datum.toD t = .tuple ds) (hx : ∀ {G H : Hp} {vs : List V}, DqAll G vs ds → SsI G H xs vs []) {ws : List Nat} (h : JGs X B S es xs S1 ws) (hc : X.calm = true := by rfl) (hn : (assignEach es X.env).length = xs.length := by rfl) (hst : (assignEach es X.env).findIdx? (·.1) = none := by rfl) : JG X B S (.Tuple es kk pos) (.val t) S1 ws := fun T tv σ v H Q hs q =>
  pg1 (pg_tup hc pgs0 rfl hst) (by
    obtain ⟨G, as, bs, z⟩ := hs
    obtain ⟨a1, a2, rfl, g, z'⟩ := z.pop
    cases g with
    | val g =>
      rw [ht] at g
      cases g with
      | @tup p vs _ hp ha =>
        have hss : SsI G H xs vs [] := hx ha
        refine ⟨p, vs, rfl, .of (z.sub _ _ hp), by rw [hn, hss.len], ?_⟩
        exact h _ _ _ _ _ _ hss.len.symm ⟨G, [] ++ a2, bs, hss.app z'.tmp, z'.cel, z'.slo, z'.nod, z'.fre, z'.gro, z'.new, z'.sub, z'.frm⟩ q)
theorem jg_pair {e1 e2 : Expr} {kk : Nat} {α β : Type} [DecidableEq α] [Datum α] [DecidableEq β] [Datum β] {t : α × β} {ws : List Nat} (h : JGs X B S [e1, e2] [.val t.1, .val t.2] S1 ws) (hc : X.calm = true := by rfl) (hn : (assignEach [e1, e2] X.env).length = 2 := by rfl) (hst : (assignEach [e1, e2] X.env).findIdx? (·.1) = none := by rfl) : JG X B S (.Tuple [e1, e2] kk pos) (.val t) S1 ws :=
  jg_tup (ds := [Datum.toD t.1, Datum.toD t.2]) rfl (fun h => by
    cases h with
    | cons h1 h2 =>
      cases h2 with
      | cons h2 h3 =>
        cases h3
        exact .cons (as := []) (.val h1) (.cons (as := []) (.val h2) .nil)) h hc hn hst
theorem jg_t3 {e1 e2 e3 : Expr} {kk : Nat} {α β γ : Type} [DecidableEq α] [Datum α] [DecidableEq β] [Datum β] [DecidableEq γ] [Datum γ] {t : T3 α β γ} {ws : List Nat} (h : JGs X B S [e1, e2, e3] [.val t.a, .val t.b, .val t.c] S1 ws) (hc : X.calm = true := by rfl) (hn : (assignEach [e1, e2, e3] X.env).length = 3 := by rfl) (hst : (assignEach [e1, e2, e3] X.env).findIdx? (·.1) = none := by rfl) : JG X B S (.Tuple [e1, e2, e3] kk pos) (.val t) S1 ws :=
  jg_tup (ds := [Datum.toD t.a, Datum.toD t.b, Datum.toD t.c]) rfl (fun h => by
    cases h with
    | cons h1 h2 =>
      cases h2 with
      | cons h2 h3 =>
        cases h3 with
        | cons h3 h4 =>
          cases h4
          exact .cons (as := []) (.val h1) (.cons (as := []) (.val h2) (.cons (as := []) (.val h3) .nil))) h hc hn hst
/-- within the block: the same context but the frame -/
abbrev Blk (X : Cx) (scope : Scope) (P : Cx → Prop) : Prop := ∀ (s : Shared) (H : Hp) (C : Addr) (cl : List (Str × Addr)) (fp : List Addr), P (X.blk s H scope (compEnvC scope cl C X.env) fp)
/-- tests -/
def ttsOf (X : Cx) (ifs : List Expr) : TT := fun σ H Q => ∃ t, PTs X ifs t ∧ t σ H Q
def JTs (X : Cx) (B : Base) (S : Stt) (ifs : List Expr) (S' : Stt) (p : Bool) : Prop := ∀ T tv σ H (Q : Bool → Hp → Prop), Sta B S T σ tv H → (∀ H', Sta B S' T σ tv H' → Q p H') → ∃ t, PTs X ifs t ∧ t σ H Q
theorem jts_nil : JTs X B S [] S true := fun T tv σ H Q hs q => ⟨_, pts_nil, q H hs⟩
theorem jts_one {c : Expr} {p : Bool} (h : JT X B S c S1 p) : JTs X B S [c] S1 p := fun T tv σ H Q hs q => ⟨_, pts_one pt0, h _ _ _ _ _ hs q⟩
def AnyAt (sl : List Slot) (vs : List Nat) : Prop := ∀ i ∈ vs, ∀ s, sl[i]? = some s → s = .any
theorem SgI.wip {G : Hp} {sl : List Slot} {σ : St} {vs : List Nat} (h : AnyAt sl vs) (g : SgI G sl σ) : SgI G sl (wipe σ vs) := by
  refine ⟨by rw [wipe_length]; exact g.1, fun i s hs => ?_⟩
  by_cases hi : i ∈ vs
  · have e := h i hi s hs
    subst e
    have hlt := (List.getElem?_eq_some_iff.mp hs).1
    exact ⟨(wipe σ vs)[i]'(by rw [wipe_length, ← g.1]; exact hlt), List.getElem?_eq_getElem _, trivial⟩
  · rw [wipe_get, if_neg hi]
    exact g.2 i s hs
theorem SgI.unwip {G : Hp} {sl : List Slot} {σ : St} {vs : List Nat} (h : AnyAt sl vs) (g : SgI G sl (wipe σ vs)) : SgI G sl σ := by
  refine ⟨by rw [← wipe_length σ vs]; exact g.1, fun i s hs => ?_⟩
  by_cases hi : i ∈ vs
  · have e := h i hi s hs
    subst e
    have hlt := (List.getElem?_eq_some_iff.mp hs).1
    exact ⟨σ[i]'(by rw [← wipe_length σ vs, ← g.1]; exact hlt), List.getElem?_eq_getElem _, trivial⟩
  · have := g.2 i s hs
    rw [wipe_get, if_neg hi] at this
    exact this
theorem Sta.wip {T : List Slot} {σ : St} {tv : List V} {H : Hp} {vs : List Nat} (h : AnyAt S.sl vs) (g : Sta B S T σ tv H) : Sta B S T (wipe σ vs) tv H := by
  obtain ⟨G, as, bs, z1, z2, z3, z⟩ := g
  exact ⟨G, as, bs, z1, z2, z3.wip h, by assumption, by assumption, by assumption, by assumption, by assumption, by assumption⟩
theorem Sta.unwip {T : List Slot} {σ : St} {tv : List V} {H : Hp} {vs : List Nat} (h : AnyAt S.sl vs) (g : Sta B S T (wipe σ vs) tv H) : Sta B S T σ tv H := by
  obtain ⟨G, as, bs, z1, z2, z3, z4, z5, z6, z7, z8, z9⟩ := g
  exact ⟨G, as, bs, z1, z2, z3.unwip h, z4, z5, z6, z7, z8, z9⟩
def cmpM {ι α β : Type} (f : ι → α → Option (Option β × ι)) : List α → ι → Option (List β × ι)
  | [], s => some ([], s)
  | x :: xs, s => (f s x).bind fun p => (cmpM f xs p.2).bind fun q => some (match p.1 with
    | some y => (y :: q.1, q.2)
    | none => q)
/-- one more item at the end of a list that is laid on top -/
theorem Sta.appT {T : List Slot} {σ : St} {tv : List V} {H : Hp} {acc : List Slot} {v : V} {D : Addr} (h : Sta B S (y :: .own (.lst acc) :: T) σ (v :: .ref D :: tv) H) : ∃ va, H D = some (.lst va) ∧ va.length = acc.length ∧ Sta B S (.own (.lst (acc ++ [y])) :: T) σ (.ref D :: tv) (upd H D (.lst (va ++ [v]))) := by
  obtain ⟨G, as, bs, z⟩ := h
  obtain ⟨a1, a2, rfl, g1, z1⟩ := z.pop
  obtain ⟨a3, a4, rfl, g2, z2⟩ := z1.pop
  cases g2 with
  | @own _ _ o m hD hc =>
    cases hc with
    | @lst _ va _ hs =>
      refine ⟨va, hD, hs.len.symm, ?_⟩
      have nd := z.nod
      have pm : ((D :: (m ++ a1)) ++ a4 ++ bs).Perm (a1 ++ ((D :: m) ++ a4) ++ bs) := by
        refine List.Perm.append_right _ ?_
        have e1 : ((D :: (m ++ a1)) ++ a4).Perm ((a1 ++ (D :: m)) ++ a4) := List.Perm.append_right _ (by
          have : ((D :: m) ++ a1).Perm (a1 ++ (D :: m)) := List.perm_append_comm
          exact this)
        rw [List.append_assoc a1] at e1
        exact e1
      have nd2 := pm.nodup_iff.mpr nd
      have nD : ∀ a ∈ m ++ a1 ++ a4 ++ bs, a ≠ D := fun a ha e => by
        subst e
        have : ((a :: (m ++ a1)) ++ a4 ++ bs) = a :: (m ++ a1 ++ a4 ++ bs) := by simp
        rw [this] at nd2
        exact (List.nodup_cons.mp nd2).1 ha
      have fr := fun a ha => z.fre a (pm.mem_iff.mp ha)
      have hG : G D = none := (fr D (by simp)).1
      have hF : B.F D = none := (fr D (by simp)).2
      have k1 : SsI G (upd H D (.lst (va ++ [v]))) acc va m := hs.mono (Ex.refl G) fun a ha => upd_ne (nD a (by simp [ha]))
      have k2 : SlI G (upd H D (.lst (va ++ [v]))) y v a1 := g1.mono (Ex.refl G) fun a ha => upd_ne (nD a (by simp [ha]))
      exact ⟨G, (D :: (m ++ a1)) ++ a4, bs, .cons (.own upd_same (.lst (k1.app (SsI.one k2)))) (z2.tmp.mono (Ex.refl G) fun a ha => upd_ne (nD a (by simp [ha]))), z2.cel.mono (Ex.refl G) fun a ha => upd_ne (nD a (by simp [ha])), z.slo, nd2, fr, z.gro, z.new,
        fun a u ha => by rw [upd_ne (by intro e; subst e; rw [hG] at ha; cases ha)]; exact z.sub a u ha, fun a u ha => by rw [upd_ne (by intro e; subst e; rw [hF] at ha; cases ha)]; exact z.frm a u ha⟩
abbrev Le (B : Base) (S S' : Stt) : Prop := ∀ T tv σ H, Sta B S T σ tv H → Sta B S' T σ tv H
theorem lc_t {ι α β : Type} [DecidableEq α] [Datum α] {xs : List α} {f : ι → α → Option (Option β × ι)} {el : β → Slot} {Sf : ι → Stt} {Sb : ι → α → Stt} {s0 sE : ι} {ys : List β} {iter elt : Expr} {ifs : List Expr} {scope : Scope} {own : List (Str × Nat)} {zs : List Slot} {ok : Stt → Prop} {ws : List Nat}
    (hf : cmpM f xs s0 = some (ys, sE)) (hlen : xs.length ≤ 16777216) (hN : X.N.Nodup) (hbk : BlkOk X.N X.env.scope scope own)
    (hi : JI X B S tg iter S1 zs (xs.map Slot.val) ok) (h0 : Le B S1 (Sf s0)) (hok : ∀ s, ok (Sf s)) (hv : ∀ s, AnyAt (Sf s).sl (own.map (·.2))) (hws : ∀ i ∈ ws, i ∈ own.map (·.2))
    (hg : ∀ s x, Blk X scope fun Y => JG Y B (Sf s) tg (.val x) (Sb s x) ws)
    (hb : ∀ s x o s', x ∈ xs → f s x = some (o, s') → ∃ (p : Bool) (St : Stt), (Blk X scope fun Y => JTs Y B (Sb s x) ifs St p) ∧ (p = true → ∃ y Se, o = some y ∧ (Blk X scope fun Y => JE Y B St elt Se (el y)) ∧ Le B Se (Sf s')) ∧ (p = false → o = none ∧ Le B St (Sf s')))
    {T : List Slot} {σ : St} {tv : List V} {H : Hp} {Q : VK} (h : Sta B S T σ tv H) (q : ∀ v H', Sta B (Sf sE) (.own (.lst (ys.map el)) :: T) σ (v :: tv) H' → Q v H') : tLc (tiOf X tg iter) (fun v σ H Q => Blk X scope fun Y => tgOf Y tg v σ H Q) (fun σ H Q => Blk X scope fun Y => ttsOf Y ifs σ H Q) (fun σ H Q => Blk X scope fun Y => teOf Y elt σ H Q) (own.map (·.2)) σ H Q :=
  hi _ _ _ _ _ h fun J zv H1 hl h1 wk => fun Dd hD => by
      have hS0 := h0 _ _ _ _ h1
      obtain ⟨G0, as0, bs0, z0⟩ := id hS0
      have start : Sta B (Sf s0) (.own (.lst ([].map el)) :: (zs ++ T)) σ (.ref Dd :: (zv ++ tv)) (upd H1 Dd (.lst [])) := z0.newO hD (.lst .nil)
      refine ⟨fun i m H => m = xs.length - i ∧ i ≤ xs.length ∧ ∃ s acc more, cmpM f (xs.drop i) s = some (more, sE) ∧ ys = acc ++ more ∧ acc.length ≤ i ∧ Sta B (Sf s) (.own (.lst (acc.map el)) :: (zs ++ T)) σ (.ref Dd :: (zv ++ tv)) H, ⟨xs.length, by simp, Nat.zero_le _, s0, [], ys, hf, rfl, Nat.zero_le _, start⟩, ?_⟩
      rintro i m H ⟨rfl, hle, s, acc, more, hm, hys, hacc, hS⟩
      have rotz : ∀ {S : Stt} {s : Slot} {u : V} {σ : St} {H : Hp}, Sta B S (s :: (zs ++ T)) σ (u :: (zv ++ tv)) H → Sta B S (zs ++ s :: T) σ (zv ++ u :: tv) H := fun {S s u σ H} h => by
        obtain ⟨G, as, bs, z⟩ := h
        obtain ⟨a1, a2, rfl, g1, z1⟩ := z.pop
        obtain ⟨a3, a4, rfl, g2, z2⟩ := z1.split hl.symm
        have pm : (a3 ++ (a1 ++ a4) ++ bs).Perm (a1 ++ (a3 ++ a4) ++ bs) := List.Perm.append_right _ (by
          rw [← List.append_assoc, ← List.append_assoc]
          exact List.Perm.append_right _ List.perm_append_comm)
        exact ⟨G, a3 ++ (a1 ++ a4), bs, g2.app (.cons g1 z2.tmp), z.cel, z.slo, pm.nodup_iff.mpr z.nod, fun a ha => z.fre a (pm.mem_iff.mp ha), z.gro, z.new, z.sub, z.frm⟩
      by_cases hlt : i < xs.length
      · rw [List.drop_eq_getElem_cons hlt] at hm
        refine bnd hm fun pr e1 e2 => bnd e2 fun qr e3 e4 => .inr ?_
        obtain ⟨o, s'⟩ := pr
        obtain ⟨more', sE'⟩ := qr
        have hx : (xs.map Slot.val)[i]? = some (Slot.val xs[i]) := by rw [List.getElem?_map, List.getElem?_eq_getElem hlt] <;> rfl
        obtain ⟨w1, w2⟩ := wk.go _ _ _ _ _ i _ (hok s) hx (rotz (hS.wip (hv s)))
        obtain ⟨w1', _⟩ := wk.go _ _ _ _ _ i _ (hok s) hx (rotz hS)
        obtain ⟨p, St, hT, hp1, hp0⟩ := hb s xs[i] o s' (List.getElem_mem hlt) e1
        refine ⟨w1', fun H => i < xs.length ∧ ∃ s acc more, cmpM f (xs.drop (i + 1)) s = some (more, sE) ∧ ys = acc ++ more ∧ acc.length ≤ i + 1 ∧ Sta B (Sf s) (.own (.lst (acc.map el)) :: (zs ++ T)) σ (.ref Dd :: (zv ++ tv)) H, fun H' ⟨_, g⟩ => ⟨xs.length - (i + 1), by omega, rfl, hlt, g⟩, fun v H' hy => ?_⟩
        have hS2 := w2 v H' hy
        -- the item on top, then the list that grows
        have hS3 : Sta B (Sf s) (.val xs[i] :: .own (.lst (acc.map el)) :: (zs ++ T)) (wipe σ (own.map (·.2))) (v :: .ref Dd :: (zv ++ tv)) H' := by
          obtain ⟨G, as, bs, z⟩ := hS2
          obtain ⟨a1, a2, rfl, g1, z1⟩ := z.pop
          obtain ⟨a3, a4, rfl, g2, z2⟩ := z1.split hl.symm
          obtain ⟨a5, a6, rfl, g3, z3⟩ := z2.pop
          have pm : (a1 ++ (a5 ++ (a3 ++ a6)) ++ bs).Perm (a1 ++ (a3 ++ (a5 ++ a6)) ++ bs) := List.Perm.append_right _ (List.Perm.append_left _ (by
            rw [← List.append_assoc, ← List.append_assoc]
            exact List.Perm.append_right _ List.perm_append_comm))
          exact ⟨G, a1 ++ (a5 ++ (a3 ++ a6)), bs, .cons g1 (.cons g3 (g2.app z3.tmp)), z.cel, z.slo, pm.nodup_iff.mpr z.nod, fun a ha => z.fre a (pm.mem_iff.mp ha), z.gro, z.new, z.sub, z.frm⟩
        intro s1 H01 C1 cl1 fp1
        refine hg s xs[i] s1 H01 C1 cl1 fp1 _ _ _ _ _ _ hS3 fun σ2 H2 chg h2 => ⟨?_, ?_⟩
        · rw [chg _ hws, wipe_wipe]
        · have back : ∀ {S : Stt} {T : List Slot} {tv : List V} {H : Hp} {s : ι}, Sta B S T σ2 tv H → Le B S (Sf s) → Sta B (Sf s) T σ tv H := fun {S T tv H s} h hle => by
            have h3 := (hle _ _ _ _ h).wip (hv s)
            rw [chg _ hws, wipe_wipe] at h3
            exact h3.unwip (hv s)
          intro s2 H02 C2 cl2 fp2
          refine hT s2 H02 C2 cl2 fp2 _ _ _ _ _ h2 fun H3 h3 => ?_
          cases p with
          | true =>
            rw [if_pos rfl]
            obtain ⟨y, Se, rfl, he, hle'⟩ := hp1 rfl
            intro s3 H03 C3 cl3 fp3
            refine he s3 H03 C3 cl3 fp3 _ _ _ _ _ h3 fun w H4 h4 => ?_
            obtain ⟨va, hDv, hvl, h5⟩ := Sta.appT h4
            refine ⟨va, hDv, ?_, hlt, s', acc ++ [y], more', ?_, ?_, ?_, ?_⟩
            · rw [hvl, List.length_map]
              exact Nat.lt_of_lt_of_le (Nat.lt_of_le_of_lt hacc hlt) hlen
            · have e5 : (y :: more', sE') = (more, sE) := Option.some.inj e4
              cases e5
              exact e3
            · have e5 : (y :: more', sE') = (more, sE) := Option.some.inj e4
              cases e5
              rw [hys, List.append_assoc]
              rfl
            · rw [List.length_append]
              exact Nat.succ_le_succ hacc
            · rw [List.map_append]
              exact back h5 hle'
          | false =>
            rw [if_neg (by decide)]
            obtain ⟨rfl, hle'⟩ := hp0 rfl
            have e5 : (more', sE') = (more, sE) := Option.some.inj e4
            cases e5
            exact ⟨hlt, s', acc, _, e3, hys, Nat.le_succ_of_le hacc, back h3 hle'⟩
      · have e : i = xs.length := by omega
        subst e
        rw [List.drop_length] at hm
        have e5 : (([] : List β), s) = (more, sE) := Option.some.inj hm
        cases e5
        have st := wk.stop _ _ _ _ _ (hok _) (rotz hS)
        rw [List.length_map] at st
        rw [List.append_nil] at hys
        subst hys
        refine .inl ⟨st, q _ _ ?_⟩
        obtain ⟨G, as, bs, z⟩ := hS
        obtain ⟨a1, a2, rfl, g1, z1⟩ := z.pop
        obtain ⟨a3, a4, rfl, g2, z2⟩ := z1.split hl.symm
        have sub : (a1 ++ a4 ++ bs).Sublist (a1 ++ (a3 ++ a4) ++ bs) := ((List.Sublist.refl a1).append (List.sublist_append_right a3 a4)).append (List.Sublist.refl bs)
        exact ⟨G, a1 ++ a4, bs, .cons g1 z2.tmp, z.cel, z.slo, sub.nodup z.nod, fun a ha => z.fre a (sub.mem ha), z.gro, z.new, z.sub, z.frm⟩
theorem je_lc {ι α β : Type} [DecidableEq α] [Datum α] {xs : List α} {f : ι → α → Option (Option β × ι)} {el : β → Slot} {Sf : ι → Stt} {Sb : ι → α → Stt} {s0 sE : ι} {ys : List β} {iter elt : Expr} {ifs : List Expr} {scope : Scope} {own : List (Str × Nat)} {zs : List Slot} {ok : Stt → Prop} {ws : List Nat}
    (hf : cmpM f xs s0 = some (ys, sE)) (hlen : xs.length ≤ 16777216) (hN : X.N.Nodup) (hbk : BlkOk X.N X.env.scope scope own)
    (hi : JI X B S tg iter S1 zs (xs.map Slot.val) ok) (h0 : Le B S1 (Sf s0)) (hok : ∀ s, ok (Sf s)) (hv : ∀ s, AnyAt (Sf s).sl (own.map (·.2))) (hws : ∀ i ∈ ws, i ∈ own.map (·.2))
    (hg : ∀ s x, Blk X scope fun Y => JG Y B (Sf s) tg (.val x) (Sb s x) ws)
    (hb : ∀ s x o s', x ∈ xs → f s x = some (o, s') → ∃ (p : Bool) (St : Stt), (Blk X scope fun Y => JTs Y B (Sb s x) ifs St p) ∧ (p = true → ∃ y Se, o = some y ∧ (Blk X scope fun Y => JE Y B St elt Se (el y)) ∧ Le B Se (Sf s')) ∧ (p = false → o = none ∧ Le B St (Sf s')))
    (hc : X.calm = true := by rfl) (hs : ∀ x, foldedSetIterable iter X.env x = pure x := by intro _; rfl) : JE X B S (.ListComp elt [⟨tg, iter, ifs, 0⟩] scope pos) (Sf sE) (.own (.lst (ys.map el))) := fun T tv σ H Q h q =>
  pe1 (pe_lc (g := (fun v σ H Q => Blk X scope fun Y => tgOf Y tg v σ H Q)) (tt := (fun σ H Q => Blk X scope fun Y => ttsOf Y ifs σ H Q)) (te := (fun σ H Q => Blk X scope fun Y => teOf Y elt σ H Q)) hc hN pi0 hbk (fun s H C cl fp => ⟨fun pins s' σ H' v u Q I r h => (h s H C cl fp).run pins s' u I r⟩) (fun s H C cl fp => ⟨fun pins s' σ H' Q I h => let ⟨_, hp, h'⟩ := h s H C cl fp; hp.run pins s' σ H' Q I h'⟩) (fun s H C cl fp => ⟨fun pins s' σ H' Q I h => (h s H C cl fp).run pins s' I⟩) hs) (lc_t hf hlen hN hbk hi h0 hok hv hws hg hb h q)
theorem js_setLc (j : Nat) {n : Str} {pos2 : Pos} {z : Slot} {ι α β : Type} [DecidableEq α] [Datum α] {xs : List α} {f : ι → α → Option (Option β × ι)} {el : β → Slot} {Sf : ι → Stt} {Sb : ι → α → Stt} {s0 sE : ι} {ys : List β} {iter elt : Expr} {ifs : List Expr} {scope : Scope} {own : List (Str × Nat)} {zs : List Slot} {ok : Stt → Prop} {ws : List Nat}
    (hf : cmpM f xs s0 = some (ys, sE)) (hlen : xs.length ≤ 16777216) (hN : X.N.Nodup) (hbk : BlkOk X.N X.env.scope scope own)
    (hi : JI X B S tg iter S1 zs (xs.map Slot.val) ok) (h0 : Le B S1 (Sf s0)) (hok : ∀ s, ok (Sf s)) (hv : ∀ s, AnyAt (Sf s).sl (own.map (·.2))) (hws : ∀ i ∈ ws, i ∈ own.map (·.2))
    (hg : ∀ s x, Blk X scope fun Y => JG Y B (Sf s) tg (.val x) (Sb s x) ws)
    (hb : ∀ s x o s', x ∈ xs → f s x = some (o, s') → ∃ (p : Bool) (St : Stt), (Blk X scope fun Y => JTs Y B (Sb s x) ifs St p) ∧ (p = true → ∃ y Se, o = some y ∧ (Blk X scope fun Y => JE Y B St elt Se (el y)) ∧ Le B Se (Sf s')) ∧ (p = false → o = none ∧ Le B St (Sf s')))
    (hz : ∀ {T : List Slot} {σ : St} {tv : List V} {v : V} {H : Hp}, Sta B (Sf sE) (.own (.lst (ys.map el)) :: T) σ (v :: tv) H → Sta B (Sf sE) (z :: T) σ (v :: tv) H) (k : JS X B ⟨(Sf sE).sl.set j z, (Sf sE).cs⟩ rest D) (hp : z.plain = true := by rfl) (hc : X.calm = true := by rfl) (hs : ∀ x, foldedSetIterable iter X.env x = pure x := by intro _; rfl) (hj : X.N[j]? = some n := by rfl) (hyl : X.env.scope.names.lookup n = some .local := by rfl) (hsw : swapsWith (.ListComp elt [⟨tg, iter, ifs, 0⟩] scope pos) (some (.Name n pos2)) apos.line X.env = pure true := by rfl) : JS X B S (.Assign [.Name n pos2] (.ListComp elt [⟨tg, iter, ifs, 0⟩] scope pos) apos :: rest) D :=
  js_step (ps_setLc (g := (fun v σ H Q => Blk X scope fun Y => tgOf Y tg v σ H Q)) (tt := (fun σ H Q => Blk X scope fun Y => ttsOf Y ifs σ H Q)) (te := (fun σ H Q => Blk X scope fun Y => teOf Y elt σ H Q)) hc hN hj hyl hsw pi0 hbk (fun s H C cl fp => ⟨fun pins s' σ H' v u Q I r h => (h s H C cl fp).run pins s' u I r⟩) (fun s H C cl fp => ⟨fun pins s' σ H' Q I h => let ⟨_, hp, h'⟩ := h s H C cl fp; hp.run pins s' σ H' Q I h'⟩) (fun s H C cl fp => ⟨fun pins s' σ H' Q I h => (h s H C cl fp).run pins s' I⟩) hs) fun T tv σ H h => lc_t hf hlen hN hbk hi h0 hok hv hws hg hb h fun v H1 h1 => k _ _ _ _ ((hz h1).set hp j)
end
end J
namespace J
universe u w
open PySem L2
open PySem.W (Datum DatumOrd Holds HoldAll T3 T4)
inductive Pk : List (Addr × Cel) → List (Addr × Cel) → List (Addr × Cel) → Prop where
  | nil {cs : List (Addr × Cel)} : Pk cs [] cs
  | cons (i : Nat) {cs ds cs' : List (Addr × Cel)} {p : Addr} {c : Cel} : cs[i]? = some (p, c) → c ≠ .gone → Pk (cs.set i (p, .gone)) ds cs' → Pk cs ((p, c) :: ds) cs'
inductive Pt : List (Addr × Cel) → List (Addr × Cel) → List (Addr × Cel) → Prop where
  | nil {cs : List (Addr × Cel)} : Pt cs [] cs
  | cons (i : Nat) {cs ds cs' : List (Addr × Cel)} {p q : Addr} {c : Cel} : cs[i]? = some (q, .gone) → Pt (cs.set i (p, c)) ds cs' → Pt cs ((p, c) :: ds) cs'
section
variable {G H : Hp}
theorem CsI.takes : ∀ {cs ds cs' : List (Addr × Cel)} {bs : List Addr}, Pk cs ds cs' → CsI G H cs bs → ∃ b1 b2, CsI G H ds b1 ∧ CsI G H cs' b2 ∧ (b1 ++ b2).Perm bs
  | _, _, _, bs, .nil, h => ⟨[], bs, .nil, h, List.Perm.refl _⟩
  | _, _, _, _, .cons (p := p) i hi hg hk, h => by
    obtain ⟨l, o, m, r, rfl, hp, hc, reb⟩ := h.at i hi hg
    obtain ⟨b1, b2, h1, h2, pm⟩ := CsI.takes hk ((reb (Ex.refl G) fun _ _ => rfl).2 _)
    refine ⟨_, b2, .cons hp hc h1, h2, ?_⟩
    have e1 : ((p :: (m ++ b1)) ++ b2).Perm ((p :: m) ++ (b1 ++ b2)) := by
      rw [List.cons_append, List.append_assoc]
      exact List.Perm.refl _
    have e2 := List.Perm.append_left (p :: m) pm
    have e3 : ((p :: m) ++ (l ++ r)).Perm (l ++ (p :: m) ++ r) := by
      rw [← List.append_assoc]
      exact List.Perm.append_right _ List.perm_append_comm
    exact e1.trans (e2.trans e3)
theorem CsI.put1 : ∀ {cs : List (Addr × Cel)} {bs : List Addr} (i : Nat) {p q : Addr} {c : Cel} {o : HO} {m : List Addr}, CsI G H cs bs → cs[i]? = some (q, .gone) → H p = some o → CeI G H c o m → ∃ b, CsI G H (cs.set i (p, c)) b ∧ b.Perm ((p :: m) ++ bs)
  | [], _, _, _, _, _, _, _, _, e, _, _ => by simp at e
  | (q0, c0) :: cs, bs, 0, p, q, c, o, m, h, e, hp, hc => by
    have e1 := Option.some.inj (show some (q0, c0) = some (q, Cel.gone) from e)
    cases e1
    cases h with
    | gone h => exact ⟨_, .cons hp hc h, List.Perm.refl _⟩
    | cons _ hc' _ => cases hc'
  | (q0, c0) :: cs, bs, i + 1, p, q, c, o, m, h, e, hp, hc => by
    have e1 : cs[i]? = some (q, Cel.gone) := e
    cases h with
    | gone h =>
      obtain ⟨b, h1, pm⟩ := CsI.put1 i h e1 hp hc
      exact ⟨b, .gone h1, pm⟩
    | @cons _ _ o1 as _ bs hp1 hc1 h =>
      obtain ⟨b, h1, pm⟩ := CsI.put1 i h e1 hp hc
      refine ⟨_, .cons hp1 hc1 h1, ?_⟩
      have e2 : (q0 :: (as ++ b)).Perm ((q0 :: as) ++ ((p :: m) ++ bs)) := List.Perm.append_left (q0 :: as) pm
      refine e2.trans ?_
      have e3 : ((q0 :: as) ++ ((p :: m) ++ bs)).Perm ((p :: m) ++ ((q0 :: as) ++ bs)) := by
        rw [← List.append_assoc, ← List.append_assoc]
        exact List.Perm.append_right _ List.perm_append_comm
      exact e3
theorem CsI.puts : ∀ {cs ds cs' : List (Addr × Cel)} {b1 b2 : List Addr}, Pt cs ds cs' → CsI G H cs b2 → CsI G H ds b1 → ∃ b, CsI G H cs' b ∧ b.Perm (b1 ++ b2)
  | _, _, _, _, b2, .nil, h, hd => by cases hd; exact ⟨b2, h, List.Perm.refl _⟩
  | _, _, _, _, b2, .cons (c := c) i hi hk, h, hd => by
    cases hd with
    | gone hd =>
      -- a hole is put back as a hole
      have e : ∀ {cs : List (Addr × Cel)} {bs : List Addr} (i : Nat) {p q : Addr}, CsI G H cs bs → cs[i]? = some (q, .gone) → CsI G H (cs.set i (p, .gone)) bs := fun {cs bs} => by
        induction cs generalizing bs with
        | nil => intro i p q _ e; simp at e
        | cons a cs ih =>
          intro i p q h e
          cases i with
          | zero =>
            have e1 := Option.some.inj (show some a = some (q, Cel.gone) from e)
            subst e1
            cases h with
            | gone h => exact .gone h
            | cons _ hc _ => cases hc
          | succ i =>
            cases h with
            | gone h => exact .gone (ih i h e)
            | cons h1 h2 h => exact .cons h1 h2 (ih i h e)
      exact CsI.puts hk (e i h hi) hd
    | @cons p _ o m _ bs hp hc hd =>
      obtain ⟨b, h1, pm⟩ := CsI.put1 i h hi hp hc
      obtain ⟨b', h2, pm2⟩ := CsI.puts hk h1 hd
      refine ⟨b', h2, pm2.trans ?_⟩
      have e1 := List.Perm.append_left bs pm
      refine e1.trans ?_
      rw [← List.append_assoc]
      refine List.Perm.append_right _ ?_
      exact List.perm_append_comm
end
/-- the promise of a def: for each g that meets pre, arguments and cells; handed back: res, the cells -/
structure FS (γ : Type) : Type 1 where
  pre : γ → Prop := fun _ => True
  preG : γ → Hp → Prop := fun _ _ => True
  args : γ → List Slot
  cells : γ → List (Addr × Cel) := fun _ => []
  res : γ → Slot
  cells' : γ → List (Addr × Cel) := fun _ => []
def FS.sp {γ : Type} (f : FS γ) : Sp := fun vs H Q _ => ∃ (g : γ) (B : Base), f.pre g ∧ f.preG g B.G ∧ Sta B ⟨[], f.cells g⟩ (f.args g) [] vs H ∧ ∀ v H', Out B (f.res g) (f.cells' g) v H' → Q v H'
/-- from a state: the def's promise may be asked -/
theorem sp_of {γ : Type} (f : FS γ) {B : Base} {S : Stt} {xs T : List Slot} {σ : St} {vs tv : List V} {H : Hp} {cs1 cs2 : List (Addr × Cel)} {Q : VK} {E : XK} (g : γ) (hpre : f.pre g) (hG : ∀ G', Ex B.G G' → f.preG g G') (ha : f.args g = xs) (hl : vs.length = xs.length) (hk : Pk S.cs (f.cells g) cs1) (hb : Pt cs1 (f.cells' g) cs2)
    (hs : Sta B S (xs ++ T) σ (vs ++ tv) H) (q : ∀ w H', Sta B ⟨S.sl, cs2⟩ (f.res g :: T) σ (w :: tv) H' → Q w H') : f.sp vs H Q E := by
  obtain ⟨G, as, bs, z⟩ := hs
  obtain ⟨a1, a2, rfl, g1, z'⟩ := z.split hl.symm
  obtain ⟨b1, b2, c1, c2, pm⟩ := CsI.takes hk z.cel
  have nd : (a1 ++ a2 ++ (b1 ++ b2)).Nodup := (List.Perm.append_left _ pm).nodup_iff.mpr z.nod
  have pm2 : ((a1 ++ b1) ++ (a2 ++ b2)).Perm (a1 ++ a2 ++ (b1 ++ b2)) := by
    rw [List.append_assoc, List.append_assoc]
    refine List.Perm.append_left _ ?_
    rw [← List.append_assoc, ← List.append_assoc]
    exact List.Perm.append_right _ List.perm_append_comm
  have nd2 := pm2.nodup_iff.mpr nd
  have fr : ∀ a ∈ (a1 ++ b1) ++ (a2 ++ b2), G a = none ∧ B.F a = none := fun a ha => z.fre a ((List.Perm.append_left _ pm).mem_iff.mp (pm2.mem_iff.mp ha))
  have dis := (List.nodup_append.mp nd2).2.2
  have nt2 : ∀ a ∈ a2 ++ b2, ∃ o, H a = some o ∧ NT o := fun a ha => (List.mem_append.mp ha).elim (fun h => z'.tmp.nt a h) fun h => c2.nt a h
  have def2 : ∀ a ∈ a2 ++ b2, ∃ o, H a = some o := fun a ha => (List.mem_append.mp ha).elim (fun h => z'.tmp.def a h) fun h => c2.def a h
  refine ⟨g, ⟨G, fun a => if a ∈ a2 ++ b2 then H a else B.F a⟩, hpre, hG G z.gro, ?_, fun v H' ho => ?_⟩
  · rw [ha]
    refine ⟨G, a1, b1, g1, c1, ⟨rfl, fun i s hs => by simp at hs⟩, (List.nodup_append.mp nd2).1, fun a ha => ⟨(fr a (List.mem_append_left _ ha)).1, ?_⟩, Ex.refl G, fun a o h => .inl h, z.sub, fun a o h => ?_⟩
    · show (if a ∈ a2 ++ b2 then H a else B.F a) = none
      rw [if_neg (fun h => dis a ha a h rfl)]
      exact (fr a (List.mem_append_left _ ha)).2
    · have h' : (if a ∈ a2 ++ b2 then H a else B.F a) = some o := h
      by_cases hm : a ∈ a2 ++ b2
      · rw [if_pos hm] at h'; exact h'
      · rw [if_neg hm] at h'; exact z.frm a o h'
  · obtain ⟨G', as', bs', y⟩ := ho
    have keep : ∀ a ∈ a2 ++ b2, H' a = H a := fun a ha => by
      obtain ⟨o, e⟩ := def2 a ha
      rw [e]
      exact y.frm a o (show (if a ∈ a2 ++ b2 then H a else B.F a) = some o by rw [if_pos ha]; exact e)
    have eg : Ex G G' := y.gro
    have y1 := y.tmp
    cases y1 with
    | @cons _ _ r1 _ _ r2 s1 s2 =>
      cases s2
      have y1' : SsI G' H' (f.res g :: T) (v :: tv) (r1 ++ a2) := .cons s1 (z'.tmp.mono eg fun a ha => keep a (List.mem_append_left _ ha))
      obtain ⟨b, cb, pb⟩ := CsI.puts hb (c2.mono eg fun a ha => keep a (List.mem_append_right _ ha)) y.cel
      have own' : ∀ a ∈ r1 ++ [] ++ bs', G' a = none ∧ a ∉ a2 ++ b2 ∧ B.F a = none := fun a ha => by
        obtain ⟨h1, h2⟩ := y.fre a ha
        have h2' : (if a ∈ a2 ++ b2 then H a else B.F a) = none := h2
        by_cases hm : a ∈ a2 ++ b2
        · rw [if_pos hm] at h2'
          obtain ⟨o, e⟩ := def2 a hm
          rw [e] at h2'
          cases h2'
        · rw [if_neg hm] at h2'
          exact ⟨h1, hm, h2'⟩
      have old' : ∀ a ∈ a2 ++ b2, G' a = none ∧ B.F a = none := fun a ha => by
        have f2 := fr a (List.mem_append_right _ ha)
        refine ⟨?_, f2.2⟩
        cases hq : G' a with
        | none => rfl
        | some o =>
          rcases y.new a o hq with h | h | ⟨xs, rfl⟩
          · have h' : G a = some o := h
            rw [f2.1] at h'
            cases h'
          · have h' : (if a ∈ a2 ++ b2 then H a else B.F a) = none := h
            rw [if_pos ha] at h'
            obtain ⟨o', e⟩ := def2 a ha
            rw [e] at h'
            cases h'
          · obtain ⟨o', e, n⟩ := nt2 a ha
            have h1 := y.sub a _ hq
            rw [keep a ha, e] at h1
            cases h1
            exact absurd rfl (n xs)
      have pm3 : (r1 ++ a2 ++ b).Perm ((r1 ++ [] ++ bs') ++ (a2 ++ b2)) := by
        have e1 := List.Perm.append_left (r1 ++ a2) pb
        refine e1.trans ?_
        rw [List.append_nil, List.append_assoc, List.append_assoc]
        refine List.Perm.append_left _ ?_
        rw [← List.append_assoc, ← List.append_assoc]
        exact List.Perm.append_right _ List.perm_append_comm
      have nd3 : (r1 ++ a2 ++ b).Nodup := pm3.nodup_iff.mpr (List.nodup_append.mpr ⟨y.nod, (List.nodup_append.mp nd2).2.1, fun a ha c hc e => (own' a ha).2.1 (e ▸ hc)⟩)
      refine q v H' ⟨G', r1 ++ a2, b, y1', cb, z.slo.mono eg, nd3, fun a ha => ?_, z.gro.trans eg, fun a o h => ?_, y.sub, fun a o h => ?_⟩
      · rcases List.mem_append.mp (pm3.mem_iff.mp ha) with h | h
        · exact ⟨(own' a h).1, (own' a h).2.2⟩
        · exact old' a h
      · rcases y.new a o h with h2 | h2 | h2
        · exact z.new a o h2
        · have h' : (if a ∈ a2 ++ b2 then H a else B.F a) = none := h2
          by_cases hm : a ∈ a2 ++ b2
          · rw [if_pos hm] at h'
            obtain ⟨o', e⟩ := def2 a hm
            rw [e] at h'
            cases h'
          · rw [if_neg hm] at h'
            exact .inr (.inl h')
        · exact .inr (.inr h2)
      · refine y.frm a o ?_
        show (if a ∈ a2 ++ b2 then H a else B.F a) = some o
        by_cases hm : a ∈ a2 ++ b2
        · rw [(fr a (List.mem_append_right _ hm)).2] at h
          cases h
        · rw [if_neg hm]
          exact h
section
variable {X : Cx} {B : Base} {S S1 S2 S3 : Stt} {x y z : Slot} {a b e o : Expr} {es : List Expr} {pos apos : Pos} {D : FE} {rest : List Stmt} {k : Nat} {tg : Expr}
/-- f(e, ..), a def of the text -/
theorem je_call {γ : Type} {f : FS γ} {fa : Addr} {fd : FuncData} {ps : List Str} {n : Str} {p : Pos} {xs : List Slot} {cs1 cs2 : List (Addr × Cel)} (F : FnOk X.prog X.w X.K X.mg X.base CX0 k fa fd ps f.sp) {lv : Nat} (hr : Room lv X.A) (hlv : k ≤ lv) (hm : X.mg n = some (.ref fa)) (hk : PySem.W.keepIn X.K (.ref fa) = true) (hb : Binds X.K fd ps [])
    (ha : JA X B S (e :: es) S1 xs) (g : γ) (hpre : f.pre g) (hx : f.args g = xs) (hpk : Pk S1.cs (f.cells g) cs1) (hpt : Pt cs1 (f.cells' g) cs2) (hG : ∀ G', Ex B.G G' → f.preG g G' := by exact fun _ _ => trivial) (hg : Gl X n := by rfl) (hdb : (n == ("__debug__" : Str)) = false := by decide) (he : starEach (e :: es) X.env = (false, eval e X.env) :: starEach es X.env := by rfl) (hpl : (backTo pos (starEach es X.env)).any (·.1) = false := by rfl) :
    JE X B S (.Call (.Name n p) (e :: es) [] pos) ⟨S1.sl, cs2⟩ (f.res g) := fun T tv σ H Q h q =>
  pe1 (pe_call F (hr.mono hlv) hg hm hk hb .nil pass0 pa0 hdb he hpl) (ha _ _ _ _ _ h fun vs H1 hl h1 => by
    rw [List.append_nil]
    exact sp_of f g hpre hG hx hl hpk hpt h1 q)
theorem SsI.slots {G H : Hp} : ∀ {ss : List Slot} {vs : List V} {as : List Addr}, SsI G H ss vs as → (∀ s ∈ ss, s.plain = true) → ∀ (i : Nat) s, ss[i]? = some s → ∃ u, vs[i]? = some u ∧ SlOk G s (some u)
  | _, _, _, .nil, _, i, s, h => by simp at h
  | _, _, _, .cons (u := u) h1 h2, hp, 0, s, h => by
    have e := Option.some.inj (show some _ = some s from h)
    subst e
    exact ⟨u, rfl, h1.ok (hp _ List.mem_cons_self)⟩
  | _, _, _, .cons h1 h2, hp, i + 1, s, h => SsI.slots h2 (fun s hs => hp s (List.mem_cons_of_mem _ hs)) i s h
theorem Sta.enter {xs : List Slot} {vs : List V} {H : Hp} {cs : List (Addr × Cel)} {N : List Str} (h : Sta B ⟨[], cs⟩ xs [] vs H) (hp : ∀ s ∈ xs, s.plain = true) : Sta B ⟨xs ++ List.replicate (N.length - xs.length) .any, cs⟩ [] (start N vs) [] H := by
  obtain ⟨G, as, bs, z⟩ := h
  have hl := z.tmp.len
  have e := z.tmp.plain hp
  subst e
  refine ⟨G, [], bs, .nil, z.cel, ⟨?_, fun i s hs => ?_⟩, z.nod, z.fre, z.gro, z.new, z.sub, z.frm⟩
  · show (xs ++ List.replicate (N.length - xs.length) Slot.any).length = (vs.map some ++ List.replicate (N.length - vs.length) none).length
    rw [List.length_append, List.length_append, List.length_map, List.length_replicate, List.length_replicate, hl]
  · show ∃ o, (vs.map some ++ List.replicate (N.length - vs.length) none)[i]? = some o ∧ SlOk G s o
    by_cases hi : i < xs.length
    · rw [List.getElem?_append_left hi] at hs
      obtain ⟨u, h1, h2⟩ := z.tmp.slots hp i s hs
      exact ⟨some u, by rw [List.getElem?_append_left (by rw [List.length_map]; omega), List.getElem?_map, h1] <;> rfl, h2⟩
    · rw [List.getElem?_append_right (by omega), List.getElem?_replicate] at hs
      split at hs
      · cases hs
        refine ⟨none, ?_, trivial⟩
        rw [List.getElem?_append_right (by rw [List.length_map]; omega), List.getElem?_replicate, List.length_map, if_pos (by omega)]
      · cases hs
theorem tb_mono {st : List Stmt} {D D' : Ends} {σ : St} {H : Hp} (h : tbOf X st D σ H) (h1 : ∀ σ H, D.nx σ H → D'.nx σ H) (h2 : ∀ v H, D.rt v H → D'.rt v H) (h3 : ∀ σ H, D.bk σ H → D'.bk σ H) (h4 : ∀ σ H, D.ct σ H → D'.ct σ H) : tbOf X st D' σ H := ⟨fun pins s I => thn (h.run pins s I) fun f s1 q => by
  cases f with
  | next => obtain ⟨σ', H', I', q⟩ := q; exact ⟨σ', H', I', h1 _ _ q⟩
  | brk => obtain ⟨σ', H', I', q⟩ := q; exact ⟨σ', H', I', h3 _ _ q⟩
  | cont => obtain ⟨σ', H', I', q⟩ := q; exact ⟨σ', H', I', h4 _ _ q⟩
  | ret u => obtain ⟨v, σ', H', I', r, q⟩ := q; exact ⟨v, σ', H', I', r, h2 _ _ q⟩⟩
/-- what a body is to reach -/
abbrev fend {γ : Type} (B : Base) (f : FS γ) (g : γ) : FE := { nx := fun T tv σ H => Out B (f.res g) (f.cells' g) .non H, rt := Out B (f.res g) (f.cells' g) }
abbrev fctx (P : Program) (w : World) (K : PySem.W.Frag) (mg : Str → Option Value) (base : Heap) (N : List Str) (qual : Str) (sc : Scope) (fa : Addr) (cdv : Value) (A : Around) (outer : List Env) (s : Shared) (H : Hp) (E : XK) : Cx := (cxOf CX0 P w K mg base N qual sc fa cdv A outer s H E).nox
end
end J
namespace J
universe u w
open PySem L2
open PySem.W (Datum DatumOrd Holds HoldAll T3 T4)
def mulG (i j : Int) : Option Int := if ((-(18446744073709551616) < i ∧ i < 18446744073709551616) ∨ (-(18446744073709551616) < j ∧ j < 18446744073709551616)) then some (i * j) else none
def divG (i j : Int) : Option Int := if 0 < j ∧ j < 18446744073709551616 then some (i / j) else none
def modG (i j : Int) : Option Int := if 0 < j then some (i % j) else none
def powG (i : Int) (n : Nat) : Option Int := if i.natAbs < 18446744073709551616 then some (i ^ n) else none
def andM (p : Bool) (m : Option Bool) : Option Bool := if p = true then m else some false
def orM (p : Bool) (m : Option Bool) : Option Bool := if p = true then some true else m
def ifM {α : Type} (p : Bool) (m n : Option α) : Option α := if p = true then m else n
theorem ifT {α : Type} {p : Bool} {a b c : α} (hp : p = true) (h : (if p = true then a else b) = c) : a = c := by rw [if_pos hp] at h; exact h
theorem ifF {α : Type} {p : Bool} {a b c : α} (hp : p = false) (h : (if p = true then a else b) = c) : b = c := by rw [if_neg (by rw [hp]; decide)] at h; exact h
section
variable {G H : Hp}
def Cel.nth : Cel → Nat → Option Slot
  | .lst ss, j => ss[j]?
  | .ins _ fs, j => (fs[j]?).map (·.2)
  | .dk _ ss, j => ss[j]?
  | .fdk _ _ ss, j => ss[j]?
  | .gone, _ => none
  | .say _, _ => none
  | .ex _, _ => none
def setF2 {α β : Type _} (fs : List (α × β)) (j : Nat) (y : β) : List (α × β) := match fs, j with
  | [], _ => []
  | (a, _) :: r, 0 => (a, y) :: r
  | p :: r, j + 1 => p :: setF2 r j y
def Cel.sub : Cel → Nat → Slot → Cel
  | .lst ss, j, y => .lst (ss.set j y)
  | .ins C fs, j, y => .ins C (setF2 fs j y)
  | .dk ks ss, j, y => .dk ks (ss.set j y)
  | .fdk o ks ss, j, y => .fdk o ks (ss.set j y)
  | .gone, _, _ => .gone
  | .say ψ, _, _ => .say ψ
  | .ex f, _, _ => .ex f
theorem setF2_snd {α β : Type _} : ∀ (fs : List (α × β)) (j : Nat) (y : β), (setF2 fs j y).map (·.2) = (fs.map (·.2)).set j y
  | [], _, _ => by simp [setF2]
  | (a, b) :: r, 0, y => rfl
  | p :: r, j + 1, y => by
    show p.2 :: (setF2 r j y).map (·.2) = p.2 :: (r.map (·.2)).set j y
    rw [setF2_snd r j y]
theorem setF2_fst {α β : Type _} : ∀ (fs : List (α × β)) (j : Nat) (y : β), (setF2 fs j y).map (·.1) = fs.map (·.1)
  | [], _, _ => by simp [setF2]
  | (a, b) :: r, 0, y => rfl
  | p :: r, j + 1, y => by
    show p.1 :: (setF2 r j y).map (·.1) = p.1 :: r.map (·.1)
    rw [setF2_fst r j y]
/-- the j-th slot taken out of a row, another one put in -/
theorem SsI.part : ∀ {ss : List Slot} {vs : List V} {as : List Addr} (j : Nat) {s : Slot}, SsI G H ss vs as → ss[j]? = some s → ∃ a1 u m a2, as = a1 ++ m ++ a2 ∧ vs[j]? = some u ∧ SlI G H s u m ∧ ∀ {s' m'}, SlI G H s' u m' → SsI G H (ss.set j s') vs (a1 ++ m' ++ a2)
  | [], _, _, _, _, _, e => by simp at e
  | s0 :: ss, vs, as, 0, s, h, e => by
    have e1 := Option.some.inj (show some s0 = some s from e)
    subst e1
    cases h with
    | @cons _ u m _ vs a2 h1 h2 => exact ⟨[], u, m, a2, rfl, rfl, h1, fun h' => .cons h' h2⟩
  | s0 :: ss, vs, as, j + 1, s, h, e => by
    cases h with
    | @cons _ u0 m0 _ vs a0 h1 h2 =>
      obtain ⟨a1, u, m, a2, rfl, hu, hs, reb⟩ := SsI.part (ss := ss) j h2 (show ss[j]? = some s from e)
      refine ⟨m0 ++ a1, u, m, a2, by simp only [List.append_assoc], hu, hs, fun {s' m'} h' => ?_⟩
      have := SsI.cons h1 (reb h')
      simpa only [List.append_assoc, List.set_cons_succ] using this
theorem CeI.part {c : Cel} {o : HO} {as : List Addr} (h : CeI G H c o as) (j : Nat) {s : Slot} (e : c.nth j = some s) : ∃ a1 u m a2, as = a1 ++ m ++ a2 ∧ SlI G H s u m ∧ ∀ {s' m'}, SlI G H s' u m' → CeI G H (c.sub j s') o (a1 ++ m' ++ a2) := by
  cases h with
  | lst h =>
    obtain ⟨a1, u, m, a2, rfl, _, hs, reb⟩ := h.part j e
    exact ⟨a1, u, m, a2, rfl, hs, fun h' => .lst (reb h')⟩
  | @ins C dx fs gs as h1 h =>
    have e' : (fs.map (·.2))[j]? = some s := by rw [List.getElem?_map]; exact e
    obtain ⟨a1, u, m, a2, rfl, _, hs, reb⟩ := h.part j e'
    refine ⟨a1, u, m, a2, rfl, hs, fun h' => .ins (by rw [setF2_fst]; exact h1) ?_⟩
    rw [setF2_snd]
    exact reb h'
  | dk h1 h =>
    obtain ⟨a1, u, m, a2, rfl, _, hs, reb⟩ := h.part j e
    exact ⟨a1, u, m, a2, rfl, hs, fun h' => .dk h1 (reb h')⟩
  | fdk h =>
    obtain ⟨a1, u, m, a2, rfl, _, hs, reb⟩ := h.part j e
    exact ⟨a1, u, m, a2, rfl, hs, fun h' => .fdk (reb h')⟩
  | say m h => cases e
  | ex h => cases e
end
section
variable {X : Cx} {B : Base} {S S1 S2 S3 : Stt} {x y z : Slot} {a b e o : Expr} {es : List Expr} {pos apos : Pos} {D : FE} {rest : List Stmt} {kk : Nat} {tg : Expr}
/-- the j-th part of the k-th cell gets a name -/
theorem js_open (k j : Nat) {p : Addr} {c d : Cel} (hk : S.cs[k]? = some (p, c)) (hj : c.nth j = some (.own d)) (h : ∀ q, JS X B ⟨S.sl, S.cs.set k (p, c.sub j (.v (.ref q))) ++ [(q, d)]⟩ rest D) : JS X B S rest D := fun T tv σ H hs => by
  obtain ⟨G, as, bs, z⟩ := hs
  have hg : c ≠ .gone := by intro e; subst e; cases hj
  obtain ⟨l, o, m, r, rfl, hp, hc, reb⟩ := z.cel.at k hk hg
  obtain ⟨a1, u, m1, a2, rfl, hs1, reb2⟩ := hc.part j hj
  cases hs1 with
  | @own _ q od mq hq hd =>
    have c2 := (reb (Ex.refl G) fun _ _ => rfl).1 hp (reb2 (.v : SlI G H (.v (.ref q)) (.ref q) []))
    have c3 := c2.app (.cons hq hd .nil)
    have pm : (l ++ p :: (a1 ++ [] ++ a2) ++ r ++ (q :: (mq ++ []))).Perm (l ++ p :: (a1 ++ q :: mq ++ a2) ++ r) := by
      simp only [List.append_nil, List.append_assoc, List.cons_append]
      refine List.Perm.append_left l (List.Perm.cons p (List.Perm.append_left a1 ?_))
      have e1 : ((a2 ++ r) ++ (q :: mq)).Perm ((q :: mq) ++ (a2 ++ r)) := List.perm_append_comm
      simpa only [List.append_assoc, List.cons_append] using e1
    have pm2 := List.Perm.append_left as pm
    exact h q T tv σ H ⟨G, as, _, z.tmp, c3, z.slo, pm2.nodup_iff.mpr z.nod, fun a ha => z.fre a (pm2.mem_iff.mp ha), z.gro, z.new, z.sub, z.frm⟩
/-- a name's thing, as a temporary one of its own -/
theorem Sta.own {T : List Slot} {σ : St} {tv : List V} {H : Hp} {p : Addr} {v : V} {c : Cel} (h : Sta B S (.v (.ref p) :: T) σ (v :: tv) H) (k : Nat) (hk : S.cs[k]? = some (p, c)) (hg : c ≠ .gone) : Sta B ⟨S.sl, S.cs.set k (p, .gone)⟩ (.own c :: T) σ (v :: tv) H := by
  have ev := h.exact
  subst ev
  obtain ⟨G, as, bs, z⟩ := h
  obtain ⟨a1, a2, rfl, g, z'⟩ := z.pop
  cases g with
  | v =>
    obtain ⟨l, o, m, r, rfl, hp, hc, reb⟩ := z.cel.at k hk hg
    have pm : ((p :: m) ++ a2 ++ (l ++ r)).Perm (([] ++ a2) ++ (l ++ p :: m ++ r)) := by
      rw [List.nil_append]
      have e1 : (a2 ++ (l ++ p :: m ++ r)).Perm (a2 ++ ((p :: m) ++ (l ++ r))) := List.Perm.append_left _ (by
        rw [← List.append_assoc]
        exact List.Perm.append_right _ List.perm_append_comm)
      have e2 : (a2 ++ ((p :: m) ++ (l ++ r))).Perm ((p :: m) ++ a2 ++ (l ++ r)) := by
        rw [← List.append_assoc]
        exact List.Perm.append_right _ List.perm_append_comm
      exact (e1.trans e2).symm
    exact ⟨G, (p :: m) ++ a2, l ++ r, .cons (.own hp hc) z'.tmp, (reb (Ex.refl G) fun _ _ => rfl).2 p, z.slo, pm.nodup_iff.mpr z.nod, fun a ha => z.fre a (pm.mem_iff.mp ha), z.gro, z.new, z.sub, z.frm⟩
theorem je_own (k : Nat) {p : Addr} {c : Cel} (h : JE X B S e S1 (.v (.ref p))) (hk : S1.cs[k]? = some (p, c)) (hg : c ≠ .gone := by nofun) : JE X B S e ⟨S1.sl, S1.cs.set k (p, .gone)⟩ (.own c) := fun T tv σ H Q hs q => h _ _ _ _ _ hs fun v H' g => q v H' (g.own k hk hg)
/-- the j-th part of a temporary thing is the k-th cell's: it is taken in -/
theorem Sta.fold {T : List Slot} {σ : St} {tv : List V} {H : Hp} {q : Addr} {v : V} {c d : Cel} (h : Sta B S (.own c :: T) σ (v :: tv) H) (k j : Nat) (hj : c.nth j = some (.v (.ref q))) (hk : S.cs[k]? = some (q, d)) (hg : d ≠ .gone) : Sta B ⟨S.sl, S.cs.set k (q, .gone)⟩ (.own (c.sub j (.own d)) :: T) σ (v :: tv) H := by
  obtain ⟨G, as, bs, z⟩ := h
  obtain ⟨a1, a2, rfl, g, z'⟩ := z.pop
  cases g with
  | @own _ p o m hp hc =>
    obtain ⟨l, od, md, r, rfl, hq, hd, reb⟩ := z.cel.at k hk hg
    obtain ⟨b1, u, m1, b2, rfl, hs1, reb2⟩ := hc.part j hj
    cases hs1 with
    | v =>
      have c2 := reb2 (.own hq hd)
      have pm : ((p :: (b1 ++ (q :: md) ++ b2)) ++ a2 ++ (l ++ r)).Perm ((p :: (b1 ++ [] ++ b2)) ++ a2 ++ (l ++ (q :: md) ++ r)) := by
        rw [List.append_nil]
        have e1 : ((p :: (b1 ++ (q :: md) ++ b2)) ++ a2 ++ (l ++ r)).Perm ((q :: md) ++ ((p :: (b1 ++ b2)) ++ a2 ++ (l ++ r))) := by
          have f1 : (p :: (b1 ++ (q :: md) ++ b2)).Perm ((q :: md) ++ (p :: (b1 ++ b2))) := by
            have g1 : (b1 ++ (q :: md) ++ b2).Perm ((q :: md) ++ (b1 ++ b2)) := by
              rw [← List.append_assoc]
              exact List.Perm.append_right _ List.perm_append_comm
            have g2 : (p :: ((q :: md) ++ (b1 ++ b2))).Perm ((q :: md) ++ (p :: (b1 ++ b2))) := List.perm_middle.symm
            exact (List.Perm.cons p g1).trans g2
          have f2 := List.Perm.append_right (l ++ r) (List.Perm.append_right a2 f1)
          rw [List.append_assoc (q :: md), List.append_assoc (q :: md)] at f2
          exact f2
        refine e1.trans ?_
        have e2 : (l ++ (q :: md) ++ r).Perm ((q :: md) ++ (l ++ r)) := by
          rw [← List.append_assoc]
          exact List.Perm.append_right _ List.perm_append_comm
        have e3 := List.Perm.append_left ((p :: (b1 ++ b2)) ++ a2) e2
        refine List.Perm.trans ?_ e3.symm
        rw [← List.append_assoc, ← List.append_assoc ((p :: (b1 ++ b2)) ++ a2)]
        exact List.Perm.append_right _ List.perm_append_comm
      exact ⟨G, _, l ++ r, .cons (.own hp c2) z'.tmp, (reb (Ex.refl G) fun _ _ => rfl).2 q, z.slo, pm.nodup_iff.mpr z.nod, fun a ha => z.fre a (pm.mem_iff.mp ha), z.gro, z.new, z.sub, z.frm⟩
theorem je_fold (k j : Nat) {q : Addr} {c d : Cel} (h : JE X B S e S1 (.own c)) (hj : c.nth j = some (.v (.ref q))) (hk : S1.cs[k]? = some (q, d)) (hg : d ≠ .gone := by nofun) : JE X B S e ⟨S1.sl, S1.cs.set k (q, .gone)⟩ (.own (c.sub j (.own d))) := fun T tv σ H Q hs q' => h _ _ _ _ _ hs fun v H' g => q' v H' (g.fold k j hj hk hg)
section
variable {i j r : Int} {p q : Bool} {m m2 : Option Bool} {rs : List Expr}
theorem je_mulG (ha : JE X B S a S1 (.val i)) (hb : JE X B S1 b S2 (.val j)) (h : mulG i j = some r) : JE X B S (.BinOp a .Mult b pos) S2 (.val r) := by
  unfold mulG at h
  split at h
  · cases h
    exact je_mul ha hb (by assumption)
  · cases h
theorem je_divG (ha : JE X B S a S1 (.val i)) (hb : JE X B S1 b S2 (.val j)) (h : divG i j = some r) : JE X B S (.BinOp a .FloorDiv b pos) S2 (.val r) := by
  unfold divG at h
  split at h
  · cases h
    exact je_div ha hb (by assumption)
  · cases h
theorem je_modG (ha : JE X B S a S1 (.val i)) (hb : JE X B S1 b S2 (.val j)) (h : modG i j = some r) : JE X B S (.BinOp a .Mod b pos) S2 (.val r) := by
  unfold modG at h
  split at h
  · cases h
    exact je_mod ha hb (by assumption)
  · cases h
theorem je_powG (n : Nat) (ha : JE X B S a S1 (.val i)) (hb : JE X B S1 b S2 (.val (n : Int))) (hn : n ≤ 1000000) (h : powG i n = some r) : JE X B S (.BinOp a .Pow b pos) S2 (.val r) := by
  unfold powG at h
  split at h
  · cases h
    exact je_pow ha hb hn (by assumption)
  · cases h
theorem jw_andM (he : andM p m = some q) (h : JT X B S a S1 p) (h2 : p = true → ∀ r, m = some r → JW X B S1 (.BoolOp .And (b :: rs) pos) S1 r) : JW X B S (.BoolOp .And (a :: b :: rs) pos) S1 q := by
  unfold andM at he
  cases p with
  | true =>
    rw [if_pos rfl] at he
    have := jw_and (q := q) h fun _ => h2 rfl q he
    rwa [Bool.true_and] at this
  | false =>
    rw [if_neg (by decide)] at he
    cases he
    have := jw_and (b := b) (rest := rs) (pos := pos) (q := false) h (fun e => nomatch e)
    rwa [Bool.and_false] at this
theorem jw_orM (he : orM p m = some q) (h : JT X B S a S1 p) (h2 : p = false → ∀ r, m = some r → JW X B S1 (.BoolOp .Or (b :: rs) pos) S1 r) : JW X B S (.BoolOp .Or (a :: b :: rs) pos) S1 q := by
  unfold orM at he
  cases p with
  | false =>
    rw [if_neg (by decide)] at he
    have := jw_or (q := q) h fun _ => h2 rfl q he
    rwa [Bool.false_or] at this
  | true =>
    rw [if_pos rfl] at he
    cases he
    have := jw_or (b := b) (rest := rs) (pos := pos) (q := true) h (fun e => nomatch e)
    rwa [Bool.or_true] at this
end
end
end J
namespace J
universe u w
open PySem L2
open PySem.W (Datum DatumOrd Holds HoldAll T3 T4)
end J
namespace J
universe u w
open PySem L2
open PySem.W (Datum DatumOrd Holds HoldAll T3 T4)
def lcM {ι α β : Type} (f : ι → α → Option (Option β × ι)) (xs : List α) (s : ι) : Option (List β × ι) := if xs.length ≤ 16777216 then cmpM f xs s else none
theorem lcM_of {ι α β : Type} {f : ι → α → Option (Option β × ι)} {xs : List α} {s : ι} {r : List β × ι} (h : lcM f xs s = some r) : xs.length ≤ 16777216 ∧ cmpM f xs s = some (r.1, r.2) := by
  unfold lcM at h
  by_cases e : xs.length ≤ 16777216
  · rw [if_pos e] at h; exact ⟨e, h⟩
  · rw [if_neg e] at h; cases h
def rngG (j : Int) : Option (List Int) := if -(4611686018427387904 : Int) ≤ j ∧ j < 4611686018427387904 then some (rng 0 j.toNat) else none
def minG {α : Type} [DecidableEq α] [DatumOrd α] : List α → Option α
  | [] => none
  | t :: ts => some (PySem.W.minOf t ts)
def lastG {α : Type} (xs : List α) : Option (α × List α) := xs.getLast?.bind fun t => some (t, xs.dropLast)
def idxG {α : Type} [DecidableEq α] (xs : List α) (t : α) : Option Int := if t ∈ xs then some ((xs.idxOf t : Nat) : Int) else none
theorem map_erase {α : Type u} {β : Type w} (f : α → β) : ∀ (xs : List α) (j : Nat), (xs.eraseIdx j).map f = (xs.map f).eraseIdx j
  | [], _ => rfl
  | _ :: _, 0 => rfl
  | x :: xs, j + 1 => congrArg (f x :: ·) (map_erase f xs j)
section
variable {X : Cx} {B : Base} {S S1 S2 S3 : Stt} {x y z : Slot} {a b e o : Expr} {es : List Expr} {pos apos : Pos} {D : FE} {rest : List Stmt} {kk : Nat} {tg : Expr} {p : Addr}
theorem je_appG {α : Type} [DecidableEq α] [Datum α] {xs ys : List α} {t : α} (k : Nat) {ss0 : List Slot} (ho : JE X B S o S1 (.v (.ref p))) (hk0 : S1.cs[k]? = some (p, .lst ss0)) (he : JE X B S1 e S2 (.val t)) (hk : S2.cs[k]? = some (p, .lst (xs.map Slot.val))) (h : psh xs t = some ys)
    (hbase : attributeBase o "append" X.env (eval o X.env) = eval o X.env := by rfl) (hst : starEach [e] X.env = (false, eval e X.env) :: starEach [] X.env := by rfl)
    (hfew : ((backTo pos (starEach [e] X.env)).all (fun x => !x.1) && (backToKw pos (keywordEach [] X.env)).all (fun x => x.1.isSome) && decide (([e] : List Expr).length + ([] : List Keyword).length + (if ([] : List Keyword).isEmpty then 0 else 1) < 30)) = true := by rfl)
    (hline : (apos.endLine == pos.line) = true := by rfl) : JE X B S (.Call (.Attribute o "append" apos) [e] [] pos) ⟨S2.sl, S2.cs.set k (p, .lst (ys.map Slot.val))⟩ (.v .non) := by
  obtain ⟨hl, rfl⟩ := psh_some h
  have := je_append (y := .val t) k ho hk0 he hk (by rw [List.length_map]; exact hl) rfl hbase hst hfew hline
  rw [List.map_append]
  exact this
theorem je_lastG {α : Type} [DecidableEq α] [Datum α] {xs : List α} {r : α × List α} (k : Nat) (ho : JE X B S o S1 (.v (.ref p))) (hk : S1.cs[k]? = some (p, .lst (xs.map Slot.val))) (h : lastG xs = some r)
    (hbase : attributeBase o "pop" X.env (eval o X.env) = eval o X.env := by rfl) (hline : (apos.endLine == pos.line) = true := by rfl) : JE X B S (.Call (.Attribute o "pop" apos) [] [] pos) ⟨S1.sl, S1.cs.set k (p, .lst (r.2.map Slot.val))⟩ (.val r.1) := by
  unfold lastG at h
  refine bnd h fun t ht h => ?_
  cases h
  have := je_pop (s := .val t) k ho hk (plain_map xs) (by rw [List.getLast?_map, ht]; rfl) hbase hline
  rw [List.map_dropLast]
  exact this
/-- xs[i] = t -/
theorem jg_subG {α : Type} [DecidableEq α] [Datum α] {xs ys : List α} {t : α} (k : Nat) {i : Int} {ix : Expr} (ho : JE X B S o S1 (.v (.ref p))) (hi : JE X B S1 ix S2 (.val i)) (hk : S2.cs[k]? = some (p, .lst (xs.map Slot.val))) (h : stx xs i t = some ys)
    (ha : ∀ v, assign (.Subscript o ix pos) X.env v = (do
      let ov ← holding [v] (eval o X.env)
      let iv ← holding [v, ov] (eval ix X.env)
      standAt pos
      holding [v, ov, iv] (setItem ov iv v)
      release [v, ov, iv] []) := by intro _; rfl) : JG X B S (.Subscript o ix pos) (.val t) ⟨S2.sl, S2.cs.set k (p, .lst (ys.map Slot.val))⟩ [] := by
  unfold stx at h
  refine bnd h fun j hj h => ?_
  cases h
  have := jg_sub (y := .val t) k ho hi hk (by rw [List.length_map]; exact hj) (plain_map xs) rfl ha
  rw [List.map_set]
  exact this
theorem ji_rngG {q : Pos} {j : Int} {r : List Int} (hm : X.mg "range" = none) (ha : JE X B S e S1 (.val j)) (h : rngG j = some r) (hg : Gl X "range" := by rfl) (hst : starEach [e] X.env = (false, eval e X.env) :: starEach [] X.env := by rfl) (hs : starEach [e] X.env = [(false, eval e X.env)] := by rfl) : JI X B S tg (.Call (.Name "range" q) [e] [] pos) S1 [] (r.map Slot.val) (fun _ => True) := by
  unfold rngG at h
  by_cases c : -(4611686018427387904 : Int) ≤ j ∧ j < 4611686018427387904
  · rw [if_pos c] at h; cases h
    exact ji_range1 hm ha c hg hst hs
  · rw [if_neg c] at h; cases h
theorem je_minG {β : Type} [DecidableEq β] [DatumOrd β] {r : β} {xs : List β} {q : Pos} (hr : Room kk X.A) (hm : X.mg "min" = none) (ha : JE X B S e S1 x) (hl : Lv X.K B S1 x (xs.map Slot.val)) (h : minG xs = some r) (hc : X.calm = true := by rfl) (hd : Datum.depth β ≤ 60 := by decide) (hg : Gl X "min" := by rfl) (hst : starEach [e] X.env = (false, eval e X.env) :: starEach [] X.env := by rfl) : JE X B S (.Call (.Name "min" q) [e] [] pos) S1 (.val r) := by
  cases xs with
  | nil => cases h
  | cons t ts => cases h; exact je_minT hr hm ha hl hc hd hg hst
/-- the same state, less told of -/
theorem le_fgt {sl : List Slot} {cs : List (Addr × Cel)} (n : Nat) (f : Fgt S.sl sl) (hc : S.cs.take n = cs) : Le B S ⟨sl, cs⟩ := fun _ _ _ _ h => by
  have h2 := (h.fgt f).take n
  rw [show (⟨sl, S.cs⟩ : Stt).cs.take n = cs from hc] at h2
  exact h2
end
end J
namespace J
universe u w
open PySem L2
open PySem.W (Datum DatumOrd Holds HoldAll T3 T4 Tup)
def rRemT : V → List V → Hp → VK → Prop := fun x xs H Q => ∃ (α : Type) (i1 : DecidableEq α) (i2 : Datum α) (t : α) (ts : List α) (y : V) (l : Addr) (vs : List V), x = .ref l ∧ xs = [y] ∧ Dq H y (Datum.toD (α := α) t) ∧ H l = some (.lst vs) ∧ DqAll H vs (ts.map (@Datum.toD α i1 i2)) ∧ @Datum.depth α i1 i2 ≤ 60 ∧ t ∈ ts ∧ Q .non (upd H l (.lst (vs.eraseIdx (ts.idxOf t))))
theorem mt_remT {X : Cx} (hu : X.A.units + 64 < cLine) : MtR X "list.remove" rRemT := by
  intro pins s σ H x xs v us Q I rx rxs h
  obtain ⟨α, i1, i2, t, ts, y, l, vs, rfl, rfl, h1, hH, ha, hd, hm, q⟩ := h
  cases rx
  obtain ⟨u, rfl, ru⟩ := vals1 rxs
  obtain ⟨z, its, n, r, hl, e⟩ := I.lstM hH
  obtain ⟨its2, r2, pl, hz2⟩ := I.list (.of (K := X.K) hH)
  have e2 : its2 = its := by
    obtain ⟨o, m, e3, _, _, e4⟩ := pl
    rw [e] at e3
    cases e3
    simp only at e4
    injection e4 with e5
    have := congrArg Array.toList e5
    simpa using this.symm
  subst e2
  have hlt : ts.idxOf t < ts.length := List.idxOf_lt_length_iff.mpr hm
  refine PySem.W.remove_list_datum (j := ts.idxOf t) pl.isList (by simpa using holdAll_of I ha r) (holds_of I h1 ru) (by omega) (by rw [List.getElem?_eq_getElem hlt, List.getElem_idxOf hlt]) (fun m hm2 e3 => ?_) (by simpa using Nat.le_trans (Nat.le_of_eq hl.symm) z) ?_
  · obtain ⟨h3, h4⟩ := List.getElem?_eq_some_iff.mp e3
    have h5 := List.not_of_lt_findIdx (p := (· == t)) (xs := ts) (show m < ts.findIdx (· == t) from hm2)
    rw [h4, beq_self_eq_true] at h5
    simp at h5
  · refine ⟨.non, _, I.lset (its' := its2.eraseIdx (ts.idxOf t)) (t' := s.toks) hH e ?_ (r.eraseIdx _) ?_, rfl, q⟩
    · show its2.toArray.eraseIdxIfInBounds _ = (its2.eraseIdx _).toArray
      rw [List.eraseIdxIfInBounds_toArray]
    · have := List.length_eraseIdx_le vs (ts.idxOf t)
      omega
def remG {α : Type} [DecidableEq α] (xs : List α) (t : α) : Option (List α) := if t ∈ xs then some (xs.eraseIdx (xs.idxOf t)) else none
section
variable {X : Cx} {B : Base} {S S1 S2 S3 : Stt} {x y z : Slot} {a b e o : Expr} {es : List Expr} {pos apos : Pos} {D : FE} {rest : List Stmt} {kk : Nat} {tg : Expr} {p : Addr}
theorem je_remG {α : Type} [DecidableEq α] [Datum α] {xs ys : List α} {t : α} (k : Nat) {ss0 : List Slot} (hr : Room kk X.A) (ho : JE X B S o S1 (.v (.ref p))) (hk0 : S1.cs[k]? = some (p, .lst ss0)) (he : JE X B S1 e S2 (.val t)) (hk : S2.cs[k]? = some (p, .lst (xs.map Slot.val))) (h : remG xs t = some ys) (hd : Datum.depth α ≤ 60 := by decide)
    (hbase : attributeBase o "remove" X.env (eval o X.env) = eval o X.env := by rfl) (hst : starEach [e] X.env = (false, eval e X.env) :: starEach [] X.env := by rfl)
    (hfew : ((backTo pos (starEach [e] X.env)).all (fun x => !x.1) && (backToKw pos (keywordEach [] X.env)).all (fun x => x.1.isSome) && decide (([e] : List Expr).length + ([] : List Keyword).length + (if ([] : List Keyword).isEmpty then 0 else 1) < 30)) = true := by rfl)
    (hline : (apos.endLine == pos.line) = true := by rfl) : JE X B S (.Call (.Attribute o "remove" apos) [e] [] pos) ⟨S2.sl, S2.cs.set k (p, .lst (ys.map Slot.val))⟩ (.v .non) := by
  unfold remG at h
  by_cases hm : t ∈ xs
  · rw [if_pos hm] at h
    cases h
    exact je_bm k PySem.F.slot_list_remove PySem.F.type_list_remove (mt_remT hr.units) ho hk0 (ja_cons he ja_nil hst) (fun T tv σ vs H Q hl' h q => by
      obtain ⟨v, rfl⟩ : ∃ v, vs = [v] := match vs, hl' with | [v], _ => ⟨v, rfl⟩
      obtain ⟨G, as, bs, z0⟩ := id h
      obtain ⟨a1, a2, rfl, g1, z1⟩ := z0.pop
      obtain rfl := g1.nil rfl
      have hv := sl_dq g1
      obtain ⟨oo, m, hpp, hc, _, hm1, _, reb⟩ := z1.cellW hk (by intro e; cases e)
      cases hc with
      | @lst _ vs0 _ hs =>
        obtain rfl := hs.plain (plain_map xs)
        have hdq := ss_dqAll hs
        have hlen := hs.len
        refine ⟨α, _, _, t, xs, v, p, vs0, rfl, rfl, dq_mono z1.sub hv, hpp, dqAll_mono z1.sub hdq, hd, hm, ?_⟩
        have hnew : CeI G (upd H p (.lst (vs0.eraseIdx (xs.idxOf t)))) (.lst ((xs.eraseIdx (xs.idxOf t)).map Slot.val)) (.lst (vs0.eraseIdx (xs.idxOf t))) [] := .lst (by
          rw [map_erase]
          exact SsI.of_get (by rw [List.length_eraseIdx, List.length_eraseIdx, hs.len]) fun i s u h1 h2 => by
            rw [List.getElem?_eraseIdx] at h1 h2
            split at h1
            · rw [if_pos (by assumption)] at h2
              obtain ⟨u', e1, e2⟩ := hs.get _ h1
              rw [h2] at e1
              cases e1
              exact e2.any'
            · rw [if_neg (by assumption)] at h2
              obtain ⟨u', e1, e2⟩ := hs.get _ h1
              rw [h2] at e1
              cases e1
              exact e2.any')
        obtain ⟨bs', z3⟩ := reb hnew (List.Sublist.refl _)
        exact q _ _ (z3.push .v)) hbase hfew hline hst
  · rw [if_neg hm] at h; cases h
/-- methods of a list said as a value -/
theorem je_bmv {id : String} {r : V → List V → Hp → VK → Prop} {name : Str} {α : Type} [DecidableEq α] [Datum α] {xs : List α} {ys : List Slot} (slot : PySem.Slot "list" name id) (hty : typeOf (.builtin id) = pure (.type "method_descriptor")) (hm : MtR X id r) (ho : JE X B S o S1 (.val xs)) (ha : JA X B S1 (e :: es) S2 ys)
    (hr : ∀ T tv σ v vs H Q, vs.length = ys.length → Sta B S2 (ys ++ .val xs :: T) σ (vs ++ v :: tv) H → (∀ w H', Sta B S3 (z :: T) σ (w :: tv) H' → Q w H') → r v vs H Q)
    (hbase : attributeBase o name X.env (eval o X.env) = eval o X.env := by rfl)
    (hfew : ((backTo pos (starEach (e :: es) X.env)).all (fun x => !x.1) && (backToKw pos (keywordEach [] X.env)).all (fun x => x.1.isSome) && decide ((e :: es).length + ([] : List Keyword).length + (if ([] : List Keyword).isEmpty then 0 else 1) < 30)) = true := by rfl)
    (hline : (apos.endLine == pos.line) = true := by rfl) (hs : starEach (e :: es) X.env = (false, eval e X.env) :: starEach es X.env := by rfl) (hplain : (backTo pos (starEach es X.env)).any (·.1) = false := by rfl) : JE X B S (.Call (.Attribute o name apos) (e :: es) [] pos) S3 z := fun T tv σ H Q h q =>
  pe1 (pe_bm PySem.F.plainAttrs_list slot hty hm pe0 pa0 hbase hfew hline hs hplain) (ho _ _ _ _ _ h fun v H1 h1 => by
    have h1c := h1
    obtain ⟨G, as, bs, z0⟩ := h1c
    obtain ⟨a1, a2, rfl, g1, z1⟩ := z0.pop
    have hv := dq_mono z1.sub (sl_dq g1)
    cases hv with
    | @lst l vs0 _ hH hd => exact ⟨.inl ⟨rfl, _, .of hH⟩, ha _ _ _ _ _ h1 fun vs H3 hl h3 => hr _ _ _ _ _ _ _ hl h3 q⟩)
theorem je_idxV {α : Type} [DecidableEq α] [Datum α] {xs : List α} {t : α} {j : Int} (hr : Room kk X.A) (ho : JE X B S o S1 (.val xs)) (he : JE X B S1 e S2 (.val t)) (h : idxG xs t = some j) (hd : Datum.depth α ≤ 60 := by decide)
    (hbase : attributeBase o "index" X.env (eval o X.env) = eval o X.env := by rfl) (hst : starEach [e] X.env = (false, eval e X.env) :: starEach [] X.env := by rfl)
    (hfew : ((backTo pos (starEach [e] X.env)).all (fun x => !x.1) && (backToKw pos (keywordEach [] X.env)).all (fun x => x.1.isSome) && decide (([e] : List Expr).length + ([] : List Keyword).length + (if ([] : List Keyword).isEmpty then 0 else 1) < 30)) = true := by rfl)
    (hline : (apos.endLine == pos.line) = true := by rfl) : JE X B S (.Call (.Attribute o "index" apos) [e] [] pos) S2 (.val j) := by
  unfold idxG at h
  by_cases hm : t ∈ xs
  · rw [if_pos hm] at h
    cases h
    exact je_bmv PySem.F.slot_list_index PySem.F.type_list_index (mt_idxT hr.units) ho (ja_cons he ja_nil hst) (fun T tv σ u vs H Q hl' h q => by
      obtain ⟨v, rfl⟩ : ∃ v, vs = [v] := match vs, hl' with | [v], _ => ⟨v, rfl⟩
      obtain ⟨G, as, bs, z0⟩ := id h
      obtain ⟨a1, a2, rfl, g1, z1⟩ := z0.pop
      have hv := sl_dq g1
      obtain ⟨a3, a4, rfl, g2, z2⟩ := z1.pop
      have hx := dq_mono z1.sub (sl_dq g2)
      cases hx with
      | @lst l vs0 _ hH hd2 => exact ⟨α, _, _, t, xs, v, rfl, dq_mono z1.sub hv, ⟨l, vs0, rfl, .of hH, hd2⟩, hd, hm, q _ _ (z2.push (sl_int _))⟩) hbase hfew hline hst
  · rw [if_neg hm] at h; cases h
theorem slds_vals {α : Type} [DecidableEq α] [Datum α] : ∀ xs : List α, SlDs (xs.map Slot.val) (xs.map Datum.toD)
  | [] => .nil
  | _ :: xs => .cons sld_val (slds_vals xs)
theorem je_tupv {α : Type} [DecidableEq α] [Datum α] {xs : List α} {k : Nat} (ha : JA X B S es S1 (xs.map Slot.val)) (hl : xs.length ≤ 1000 := by exact Nat.le_of_ble_eq_true rfl) : JE X B S (.Tuple es k pos) S1 (.val (Tup.mk xs)) :=
  je_tup ha (slds_vals xs) rfl (by rw [List.length_map]; exact hl)
end
section
variable {K : PySem.W.Frag} {x qual : Str} {params : Arguments} {body : List Stmt} {scope : Scope} {f : Addr} {fd : FuncData} {ps : List Str}
theorem kb0 (F : FunD K x qual params body scope [] [] f fd) (ks : List Str) (g : {α : Type} → List α → List α)
    (hrel : ∀ {zs : List V} {ws : List Value}, Vals zs ws → Vals (g zs) (g ws))
    (h : ∀ (kV doc pm : Value) (an : Option Addr) (cdv ct : Value) (ws : List Value), ws.length = ks.length → bindArgs (PySem.W.fnOf x qual params body scope .none kV doc pm an cdv ct) ⟨[], ks.zip ws⟩ = pure (ps.zip (g ws))) : KBn K fd ps 0 ks (fun _ ws => g ws) (fun _ zs => g zs) := by
  obtain ⟨oc, od, dV, kV, doc, pm, an, cdv, ct, osl, rfl, lk, hcd, hD, hK⟩ := F.ex
  rcases hD with ⟨_, rfl⟩ | ⟨e, _⟩
  · refine ⟨fun s us ws X l1 l2 => ?_, fun _ r => hrel r⟩
    obtain rfl := List.eq_nil_of_length_eq_zero l1
    exact .of_eq (h kV doc pm an cdv ct ws l2)
  · exact absurd rfl e
end
section
variable {X : Cx} {B : Base} {S S1 S2 S3 : Stt} {x y z : Slot} {a b e o : Expr} {es : List Expr} {pos apos : Pos} {D : FE} {rest : List Stmt} {kk : Nat} {tg : Expr} {p : Addr} {kws : List Keyword}
/-- keywords' values, from the left -/
def JK (X : Cx) (B : Base) (S : Stt) (kws : List Keyword) (S' : Stt) (xs : List Slot) : Prop := ∀ T tv σ H (Q : List V → Hp → Prop), Sta B S T σ tv H → (∀ vs H', vs.length = xs.length → Sta B S' (xs ++ T) σ (vs ++ tv) H' → Q vs H') → ∃ t, PK X kws t ∧ t σ H Q
theorem jk_nil : JK X B S [] S [] := fun T tv σ H Q hs q => ⟨_, pk_nil, q [] H rfl hs⟩
def tkOf (X : Cx) (kws : List Keyword) : TA := fun σ H Q => ∃ t, PK X kws t ∧ t σ H Q
theorem pk0 : PK X kws (tkOf X kws) := ⟨fun pos pins s σ H Q I ⟨_, hp, h⟩ => hp.run pos pins s σ H Q I h⟩
theorem jk_cons {nm : Option Str} {kpos : Pos} {xs : List Slot} (h1 : JE X B S e S1 x) (h2 : JK X B S1 kws S2 xs) : JK X B S (⟨nm, e, kpos⟩ :: kws) S2 (x :: xs) := fun T tv σ H Q hs q =>
  ⟨_, pk_cons pe0 pk0, h1 _ _ _ _ _ hs fun v H1 g1 => h2 _ _ _ _ _ g1 fun vs H2 hl g2 => q (v :: vs) H2 (congrArg Nat.succ hl) (Sta.rot hl.symm g2)⟩
theorem pe_callN0 {CX : CXT} {k : Nat} {f : Addr} {fd : FuncData} {ps ks : List Str} {sp : Sp} {E : XK} {n : Str} {q : Pos} {g : List Value → List Value → List Value} {gV : List V → List V → List V} {tk : TA} (F : FnOk X.prog X.w X.K X.mg X.base CX k f fd ps sp) (hr : Room k X.A) (hg : Gl X n) (hm : X.mg n = some (.ref f)) (hk : PySem.W.keepIn X.K (.ref f) = true) (hb : KBn X.K fd ps 0 ks g gV) (hx : Passes CX X E)
    (hkw : PK X kws tk) (hall : (backToKw pos (keywordEach kws X.env)).all (·.1.isSome) = true := by rfl) (hks : (backToKw pos (keywordEach kws X.env)).filterMap (·.1) = ks := by rfl)
    (hdb : (n == ("__debug__" : Str)) = false := by decide)
    (hpl : ((backTo pos (starEach [] X.env)).any (·.1) || (backToKw pos (keywordEach kws X.env)).any (·.1.isNone)) = false := by rfl) :
    PE X (.Call (.Name n q) [] kws pos) (fun σ H Q => tk σ H fun zs H2 => zs.length = ks.length ∧ sp (gV [] zs) H2 Q E) := by
  refine ⟨fun pins s σ H Q I h => ?_⟩
  refine wpAny_Call_Name_kw (ld_glob I hg hm ?_ hdb)
  refine PySem.W.callWith_KW0 (h₀ := X.base) I.ok.mod.kin hk hall (thn (hkw.run pos pins s σ H _ I h) fun ws s2 ⟨zs, H2, I2, rz, l2, q2⟩ => ⟨I2.kIn, ?_⟩) hpl
  rw [hks]
  exact run_fnN F hr hb hx I2 .nil rz rfl l2 q2
/-- f(k = v, ..), names alone; pm puts the values in the parameters' order -/
theorem je_callK {γ : Type} {f : FS γ} {k lv : Nat} {fa : Addr} {fd : FuncData} {ps ks : List Str} {n : Str} {q : Pos} {xs : List Slot} {cs1 cs2 : List (Addr × Cel)} {g0 : List Value → List Value} {gV : List V → List V} (F : FnOk X.prog X.w X.K X.mg X.base CX0 k fa fd ps f.sp) (hr : Room lv X.A) (hlv : k ≤ lv) (hm : X.mg n = some (.ref fa)) (hk : PySem.W.keepIn X.K (.ref fa) = true) (hb : KBn X.K fd ps 0 ks (fun _ ws => g0 ws) (fun _ zs => gV zs))
    (ha : JK X B S kws S1 xs) (g : γ) (hpre : f.pre g) (hkl : xs.length = ks.length) (hx : ∀ {T : List Slot} {σ : St} {vs tv : List V} {H : Hp}, vs.length = xs.length → Sta B S1 (xs ++ T) σ (vs ++ tv) H → (gV vs).length = (f.args g).length ∧ Sta B S1 (f.args g ++ T) σ (gV vs ++ tv) H) (hpk : Pk S1.cs (f.cells g) cs1) (hpt : Pt cs1 (f.cells' g) cs2) (hG : ∀ G', Ex B.G G' → f.preG g G' := by exact fun _ _ => trivial) (hg : Gl X n := by rfl)
    (hall : (backToKw pos (keywordEach kws X.env)).all (·.1.isSome) = true := by rfl) (hks : (backToKw pos (keywordEach kws X.env)).filterMap (·.1) = ks := by rfl)
    (hdb : (n == ("__debug__" : Str)) = false := by decide)
    (hpl : ((backTo pos (starEach [] X.env)).any (·.1) || (backToKw pos (keywordEach kws X.env)).any (·.1.isNone)) = false := by rfl) :
    JE X B S (.Call (.Name n q) [] kws pos) ⟨S1.sl, cs2⟩ (f.res g) := fun T tv σ H Q h q =>
  pe1 (pe_callN0 F (hr.mono hlv) hg hm hk hb pass0 pk0 hall hks hdb hpl) (ha _ _ _ _ _ h fun vs H1 hl h1 => by
    obtain ⟨l3, h3⟩ := hx hl h1
    exact ⟨hl.trans hkl, sp_of f g hpre hG rfl l3 hpk hpt h3 q⟩)
/-- the top ones, put in another order -/
theorem Sta.perm2 {T : List Slot} {σ : St} {tv : List V} {H : Hp} {u v : V} (h : Sta B S (x :: y :: T) σ (u :: v :: tv) H) : Sta B S (y :: x :: T) σ (v :: u :: tv) H := Sta.rot (xs := [x]) (vs := [u]) rfl h
end
theorem fn_okD {γ : Type} (f : FS γ) {P : Program} {w : World} {K : PySem.W.Frag} {mg : Str → Option Value} {base : Heap} {x qual : Str} {params : Arguments} {bd : List Stmt} {scope : Scope} {dvs : List V} {kwd : List (Str × V)} {fa : Addr} {fd : FuncData} {N ps : List Str} {lv : Nat} (F : FunD K x qual params bd scope dvs kwd fa fd) (sc : FnScope N ps scope) (hn : ∀ g, (f.args g).length = ps.length) (hp : ∀ g, ∀ s ∈ f.args g, s.plain = true)
    (body : ∀ (cdv : Value) (A : Around) (outer : List Env) (s : Shared) (H : Hp) (E : XK), Room lv (fctx P w K mg base N qual scope fa cdv A outer s H E).A → ∀ (B : Base) (g : γ), f.pre g → f.preG g B.G →
      JS (fctx P w K mg base N qual scope fa cdv A outer s H E) B ⟨f.args g ++ List.replicate (N.length - (f.args g).length) .any, f.cells g⟩ bd (fend B f g)) : FnOk P w K mg base CX0 (lv + 1) fa fd ps f.sp := by
  refine F.ok sc (fun vs H Q E h => ?_) (fun cdv A outer s H vs Q E hr h => ?_)
  · obtain ⟨g, B, _, _, hs, _⟩ := h
    obtain ⟨G, as, bs, z⟩ := hs
    rw [← hn g, z.tmp.len]
  · obtain ⟨g, B, hpre, hpg, hs, q⟩ := h
    refine ⟨tbOf (fctx P w K mg base N qual scope fa cdv A outer s H E) bd, PSs.nox pb0, ?_⟩
    refine tb_mono (body cdv A outer s H E hr B g hpre hpg [] [] _ H (hs.enter (hp g))) (fun σ H h => q _ _ h) (fun v H h => q _ _ h) (fun _ _ h => h.elim) (fun _ _ h => h.elim)
end J
namespace J
universe u w
open PySem L2
open PySem.W (Datum DatumOrd Holds HoldAll T3 T4 Tup)
/-- one of the states Sq -/
def toE {π : Type} (B : Base) (Sq : π → Stt) : FK := fun T tv σ H => ∃ q, Sta B (Sq q) T σ tv H
section
variable {X : Cx} {B : Base} {S S1 S2 S3 : Stt} {x y z : Slot} {a b e o : Expr} {es : List Expr} {pos apos : Pos} {D : FE} {rest : List Stmt} {kk : Nat} {tg : Expr}
theorem js_ifE {π : Type} {c : Expr} {th el : List Stmt} {p : Bool} {Sq : π → Stt} (hc : JT X B S c S1 p) (h1 : p = true → JS X B S1 th { D with nx := toE B Sq }) (h2 : p = false → JS X B S1 el { D with nx := toE B Sq }) (k : ∀ q, JS X B (Sq q) rest D) : JS X B S (.If c th el pos :: rest) D := by
  have mono : ∀ {st : List Stmt} {T tv σ H}, tbOf X st (({ D with nx := toE B Sq } : FE).at T tv) σ H → tbOf X st ((D.seq X rest).at T tv) σ H := fun {st T tv σ H} h => ⟨fun pins s I => thn (h.run pins s I) fun f s1 q => by
    cases f with
    | next =>
      obtain ⟨σ', H', I', w, q⟩ := q
      exact ⟨σ', H', I', k w _ _ _ _ q⟩
    | brk => exact q
    | cont => exact q
    | ret u => exact q⟩
  exact js_if hc (fun e => fun T tv σ H g => mono (h1 e T tv σ H g)) (fun e => fun T tv σ H g => mono (h2 e T tv σ H g))
theorem js_forE {π ι α : Type} [DecidableEq α] [Datum α] {xs : List α} {f : ι → α → Option ι} {Sf : π → ι → Stt} {Sb : π → ι → α → Stt} {s0 sE : ι} {tg iter : Expr} {body : List Stmt} {zs : List Slot} {ok : Stt → Prop} (hf : forM f xs s0 = some sE)
    (hi : JI X B S tg iter S1 zs (xs.map Slot.val) ok) (h0 : ∀ T tv σ H, Sta B S1 T σ tv H → ∃ q, Sta B (Sf q s0) T σ tv H) (hok : ∀ q s, ok (Sf q s))
    {ws : List Nat} (hg : ∀ q s x, JG X B (Sf q s) tg (.val x) (Sb q s x) ws) (hb : ∀ q s x s', x ∈ xs → f s x = some s' → JS X B (Sb q s x) body { nx := toE B fun q => Sf q s', rt := D.rt, ct := toE B fun q => Sf q s' })
    (k : ∀ q, JS X B (Sf q sE) rest D) (hc : X.calm = true := by rfl) (hp : PassesOwn (model X.prog X.w) X.A X.env X.xe := by exact PassesOwn.never) (hs : ∀ x, foldedSetIterable iter X.env x = pure x := by intro _; rfl) : JS X B S (.For tg iter body [] pos :: rest) D := by
  refine js_step (ps_for hp hc pi0 pg0 pb0 hs) fun T tv σ H h => hi _ _ _ _ _ h fun J zv H1 hl h1 wk => ?_
  refine ⟨fun i m σ H => m = xs.length - i ∧ i ≤ xs.length ∧ ∃ s, forM f (xs.drop i) s = some sE ∧ ∃ q, Sta B (Sf q s) (zs ++ T) σ (zv ++ tv) H, ⟨xs.length, by simp, Nat.zero_le _, s0, hf, h0 _ _ _ _ h1⟩, ?_⟩
  rintro i m σ H ⟨rfl, hle, s, hs', q, hS⟩
  by_cases hlt : i < xs.length
  · rw [List.drop_eq_getElem_cons hlt] at hs'
    refine bnd hs' fun s2 e1 e2 => .inr ?_
    have hx : (xs.map Slot.val)[i]? = some (Slot.val xs[i]) := by rw [List.getElem?_map, List.getElem?_eq_getElem hlt]; rfl
    obtain ⟨w1, w2⟩ := wk.go _ _ _ _ _ i _ (hok q s) hx hS
    refine ⟨w1, toE B (fun q => Sf q s2) (zs ++ T) (zv ++ tv), fun σ' H' g => ⟨xs.length - (i + 1), by omega, rfl, hlt, s2, e2, g⟩, fun v H' y => ?_⟩
    exact hg q s xs[i] _ _ _ _ _ _ (w2 v H' y) fun σ3 H3 _ g3 => ⟨fun pins st I => thn ((hb q s xs[i] s2 (List.getElem_mem hlt) e1 _ _ _ _ g3).run pins st I) fun fl s2 q => by
        cases fl with
        | next => exact q
        | cont => exact q
        | brk => obtain ⟨_, _, _, z⟩ := q; exact z.elim
        | ret u => exact q⟩
  · have e : i = xs.length := by omega
    subst e
    rw [List.drop_length] at hs'
    cases hs'
    have st := wk.stop _ _ _ _ _ (hok _ _) hS
    rw [List.length_map] at st
    exact .inl ⟨st, k q _ _ _ _ (Sta.drops hl hS)⟩
theorem js_forLE {π ι α ρ : Type} [DecidableEq α] [Datum α] {xs : List α} {f : ι → α → Option (Lp ι ρ)} {Sf : π → ι → Stt} {Sb : π → ι → α → Stt} {Rr : ρ → V → Hp → Prop} {s0 : ι} {sE : Sum ι ρ} {tg iter : Expr} {body : List Stmt} {zs : List Slot} {ok : Stt → Prop} (hf : forL f xs s0 = some sE)
    (hi : JI X B S tg iter S1 zs (xs.map Slot.val) ok) (h0 : ∀ T tv σ H, Sta B S1 T σ tv H → ∃ q, Sta B (Sf q s0) T σ tv H) (hok : ∀ q s, ok (Sf q s))
    {ws : List Nat} (hg : ∀ q s x, JG X B (Sf q s) tg (.val x) (Sb q s x) ws)
    (hb : ∀ q s x (o : Lp ι ρ), x ∈ xs → f s x = some o → JS X B (Sb q s x) body { nx := fun T tv σ H => ∃ s', o = .nx s' ∧ ∃ q, Sta B (Sf q s') T σ tv H, rt := fun v H => ∃ r, o = .rt r ∧ Rr r v H, ct := fun T tv σ H => ∃ s', o = .nx s' ∧ ∃ q, Sta B (Sf q s') T σ tv H, bk := fun T tv σ H => ∃ s', o = .bk s' ∧ ∃ q, Sta B (Sf q s') T σ tv H })
    (hr : ∀ r, sE = .inr r → ∀ v H, Rr r v H → D.rt v H) (k : ∀ s, sE = .inl s → ∀ q, JS X B (Sf q s) rest D) (hc : X.calm = true := by rfl) (hp : PassesOwn (model X.prog X.w) X.A X.env X.xe := by exact PassesOwn.never) (hs : ∀ x, foldedSetIterable iter X.env x = pure x := by intro _; rfl) : JS X B S (.For tg iter body [] pos :: rest) D := by
  refine js_step (ps_for hp hc pi0 pg0 pb0 hs) fun T tv σ H h => hi _ _ _ _ _ h fun J zv H1 hl h1 wk => ?_
  refine ⟨fun i m σ H => m = xs.length - i ∧ i ≤ xs.length ∧ ∃ s, forL f (xs.drop i) s = some sE ∧ ∃ q, Sta B (Sf q s) (zs ++ T) σ (zv ++ tv) H, ⟨xs.length, by simp, Nat.zero_le _, s0, hf, h0 _ _ _ _ h1⟩, ?_⟩
  rintro i m σ H ⟨rfl, hle, s, hs', q, hS⟩
  by_cases hlt : i < xs.length
  · rw [List.drop_eq_getElem_cons hlt] at hs'
    refine bnd hs' fun o e1 e2 => .inr ?_
    have hx : (xs.map Slot.val)[i]? = some (Slot.val xs[i]) := by rw [List.getElem?_map, List.getElem?_eq_getElem hlt]; rfl
    obtain ⟨w1, w2⟩ := wk.go _ _ _ _ _ i _ (hok q s) hx hS
    refine ⟨w1, fun σ' H' => ∃ s', o = .nx s' ∧ ∃ q, Sta B (Sf q s') (zs ++ T) σ' (zv ++ tv) H', ?_, fun v H' y => ?_⟩
    · rintro σ' H' ⟨s2, rfl, g⟩
      exact ⟨xs.length - (i + 1), by omega, rfl, hlt, s2, e2, g⟩
    · exact hg q s xs[i] _ _ _ _ _ _ (w2 v H' y) fun σ3 H3 _ g3 => ⟨fun pins st I => thn ((hb q s xs[i] o (List.getElem_mem hlt) e1 _ _ _ _ g3).run pins st I) fun fl s2 q => by
        cases fl with
        | next => exact q
        | cont => exact q
        | brk =>
          obtain ⟨σ', H', I', s', rfl, w, g⟩ := q
          cases e2
          exact ⟨σ', H', I', k s' rfl w _ _ _ _ (Sta.drops hl g)⟩
        | ret u =>
          obtain ⟨v', σ', H', I', rv, r, rfl, g⟩ := q
          cases e2
          exact ⟨v', σ', H', I', rv, hr r rfl _ _ g⟩⟩
  · have e : i = xs.length := by omega
    subst e
    rw [List.drop_length] at hs'
    cases hs'
    have st := wk.stop _ _ _ _ _ (hok _ _) hS
    rw [List.length_map] at st
    exact .inl ⟨st, k s rfl q _ _ _ _ (Sta.drops hl hS)⟩
theorem js_whileE {π ι : Type} {c : ι → Option Bool} {f : ι → Option ι} {Sf : π → ι → Stt} {s0 sE : ι} {n : Nat} {test : Expr} {body : List Stmt} (hw : whileM c f n s0 = some sE) (h0 : ∀ T tv σ H, Sta B S T σ tv H → ∃ q, Sta B (Sf q s0) T σ tv H)
    (hc : ∀ q s p, c s = some p → JT X B (Sf q s) test (Sf q s) p) (hb : ∀ q s s', c s = some true → f s = some s' → JS X B (Sf q s) body { nx := toE B fun q => Sf q s', rt := D.rt, ct := toE B fun q => Sf q s' })
    (k : ∀ q, JS X B (Sf q sE) rest D) (hp : PassesOwn (model X.prog X.w) X.A X.env X.xe := by exact PassesOwn.never) : JS X B S (.While test body [] pos :: rest) D := by
  refine js_step (ps_while hp pt0 pb0) fun T tv σ H h => ?_
  refine ⟨fun m σ H => ∃ s, whileM c f m s = some sE ∧ ∃ q, Sta B (Sf q s) T σ tv H, ⟨n, s0, hw, h0 _ _ _ _ h⟩, ?_⟩
  rintro m σ H ⟨s, hm, q, hs⟩
  cases m with
  | zero => cases hm
  | succ m =>
    refine bnd hm fun p hp1 hm1 => ?_
    refine hc q s p hp1 _ _ _ _ _ hs fun H1 h1 => ?_
    cases p with
    | true =>
      rw [if_pos rfl] at hm1
      refine bnd hm1 fun s' hs' hm2 => ?_
      exact iteT ⟨toE B (fun q => Sf q s') T tv, fun σ' H' g => ⟨m, Nat.lt_succ_self m, s', hm2, g⟩, ⟨fun pins s1 I => thn ((hb q s s' hp1 hs' T tv σ H1 h1).run pins s1 I) fun fl s2 q => by
        cases fl with
        | next => exact q
        | cont => exact q
        | brk => obtain ⟨_, _, _, z⟩ := q; exact z.elim
        | ret u => exact q⟩⟩
    | false =>
      rw [if_neg (by decide)] at hm1
      cases hm1
      exact iteF (k q T tv σ H1 h1)
/-- cell j goes to place k, what was there is dropped -/
theorem CsI.drop1 {G H : Hp} : ∀ {cs : List (Addr × Cel)} {bs : List Addr} (k : Nat), CsI G H cs bs → ∃ p0 ds, CsI G H (cs.set k (p0, .gone)) ds ∧ ds.Sublist bs
  | [], _, k, h => ⟨0, _, by simpa using h, List.Sublist.refl _⟩
  | (p, c) :: cs, bs, 0, h => by
    cases h with
    | gone h => exact ⟨p, _, .gone h, List.Sublist.refl _⟩
    | @cons _ _ o as _ b2 hp hc h => exact ⟨p, b2, .gone h, ((List.sublist_append_right as b2).trans (List.sublist_cons_self p _))⟩
  | (p, c) :: cs, bs, k + 1, h => by
    cases h with
    | gone h =>
      obtain ⟨p0, ds, h1, h2⟩ := CsI.drop1 k h
      exact ⟨p0, ds, .gone h1, h2⟩
    | @cons _ _ o as _ b2 hp hc h =>
      obtain ⟨p0, ds, h1, h2⟩ := CsI.drop1 k h
      exact ⟨p0, _, .cons hp hc h1, ((List.Sublist.refl as).append h2).cons_cons p⟩
theorem Sta.mv {T : List Slot} {σ : St} {tv : List V} {H : Hp} {p q : Addr} {c d : Cel} (h : Sta B S T σ tv H) (k j : Nat) (hk : S.cs[k]? = some (p, d)) (hj : S.cs[j]? = some (q, c)) (hg : c ≠ .gone) (hkj : k ≠ j) : Sta B ⟨S.sl, (S.cs.set k (q, c)).set j (q, .gone)⟩ T σ tv H := by
  obtain ⟨G, as, bs, z1, z2, z3, z4, z5, z6, z7, z8, z9⟩ := h
  obtain ⟨l, o, m, r, rfl, hq, hc, reb⟩ := z2.at j hj hg
  have g1 := (reb (Ex.refl G) fun _ _ => rfl).2 q
  obtain ⟨p0, ds, g2, sub⟩ := CsI.drop1 k g1
  have hkl : k < S.cs.length := (List.getElem?_eq_some_iff.mp hk).1
  obtain ⟨b, g3, pm⟩ := CsI.put1 (p := q) (q := p0) k g2 (by rw [List.getElem?_set_self (by rw [List.length_set]; exact hkl)]) hq hc
  rw [List.set_set, List.set_comm _ _ (Ne.symm hkj)] at g3
  have pm0 : (l ++ (q :: m) ++ r).Perm ((q :: m) ++ (l ++ r)) := by
    rw [← List.append_assoc]
    exact List.Perm.append_right _ List.perm_append_comm
  have p1 : (as ++ b).Perm (as ++ ((q :: m) ++ ds)) := List.Perm.append_left as pm
  have s1 : (as ++ ((q :: m) ++ ds)).Sublist (as ++ ((q :: m) ++ (l ++ r))) := (List.Sublist.refl as).append ((List.Sublist.refl (q :: m)).append sub)
  have p2 : (as ++ (l ++ (q :: m) ++ r)).Perm (as ++ ((q :: m) ++ (l ++ r))) := List.Perm.append_left as pm0
  exact ⟨G, as, b, z1, g3, z3, p1.nodup_iff.mpr (s1.nodup (p2.nodup_iff.mp z4)), fun a ha => z5 a (p2.mem_iff.mpr (s1.subset (p1.mem_iff.mp ha))), z6, z7, z8, z9⟩
theorem js_mv (k j : Nat) {p q : Addr} {c d : Cel} (hk : S.cs[k]? = some (p, d)) (hj : S.cs[j]? = some (q, c)) (h : JS X B ⟨S.sl, (S.cs.set k (q, c)).set j (q, .gone)⟩ rest D) (hg : c ≠ .gone := by nofun) (hkj : k ≠ j := by decide) : JS X B S rest D := fun T tv σ H hs => h T tv σ H (hs.mv k j hk hj hg hkj)
/-- whole numbers and None where either may stand -/
theorem je_some {α : Type} [DecidableEq α] [Datum α] [PySem.W.SomeDatum α] {t : α} (h : JE X B S e S1 (.val t)) : JE X B S e S1 (.val (some t)) := je_as h fun h => by
  cases h with
  | val h => exact .val (show Dq _ _ (Datum.toD (some t)) from h)
theorem je_nonO {α : Type} [DecidableEq α] [Datum α] [PySem.W.SomeDatum α] (h : JE X B S e S1 (.v .non)) : JE X B S e S1 (.val (none : Option α)) := je_as h fun h => by
  cases h with
  | v => exact .val (show Dq _ _ (Datum.toD (none : Option α)) from .non)
theorem je_get {α : Type} [DecidableEq α] [Datum α] [PySem.W.SomeDatum α] {r : Option α} {t : α} (h : JE X B S e S1 (.val r)) (hr : r = some t) : JE X B S e S1 (.val t) := je_as h fun h => by
  subst hr
  cases h with
  | val h => exact .val (show Dq _ _ (Datum.toD t) from h)
theorem je_mulR {i j : Int} (ha : JE X B S a S1 (.val i)) (hb : JE X B S1 b S2 (.val j)) (hc : -(2 ^ 64) < j ∧ j < 2 ^ 64) : JE X B S (.BinOp a .Mult b pos) S2 (.val (i * j)) := je_mul ha hb (.inr hc)
theorem je_mulL {i j : Int} (ha : JE X B S a S1 (.val i)) (hb : JE X B S1 b S2 (.val j)) (hc : -(2 ^ 64) < i ∧ i < 2 ^ 64) : JE X B S (.BinOp a .Mult b pos) S2 (.val (i * j)) := je_mul ha hb (.inl hc)
theorem je_lstv {α : Type} [DecidableEq α] [Datum α] {xs : List α} (ha : JA X B S es S1 (xs.map Slot.val)) (hl : xs.length ≤ 1000 := by exact Nat.le_of_ble_eq_true rfl) : JE X B S (.List es pos) S1 (.own (.lst (xs.map Slot.val))) := je_lst ha (by rw [List.length_map]; exact hl)
theorem je_let {α : Type} [DecidableEq α] [Datum α] {p q : α} (h : JE X B S e S1 (.val p)) (k : some p = some q) : JE X B S e S1 (.val q) := Option.some.inj k ▸ h
def Slot.nm : Slot → Addr → Slot
  | .own _, p => .v (.ref p)
  | .ownA q _, _ => .v (.ref q)
  | .otup _, _ => .any
  | s, _ => s
theorem sl_ownA {G H : Hp} {q : Addr} {c : Cel} {v : V} {as : List Addr} (h : SlI G H (.ownA q c) v as) : v = .ref q ∧ SlI G H (.own c) v as := by
  cases h with
  | ownA hp hc => exact ⟨rfl, .own hp hc⟩
theorem Sta.ownA {T : List Slot} {σ : St} {tv : List V} {H : Hp} {v : V} {q : Addr} {c : Cel} (h : Sta B S (.ownA q c :: T) σ (v :: tv) H) : v = .ref q ∧ Sta B S (.own c :: T) σ (v :: tv) H := by
  obtain ⟨G, as, bs, z⟩ := h
  have zt := z.tmp
  cases zt with
  | cons h1 h2 => exact ⟨(sl_ownA h1).1, G, _, bs, .cons (sl_ownA h1).2 h2, z.cel, z.slo, z.nod, z.fre, z.gro, z.new, z.sub, z.frm⟩
/-- a body's end without return -/
theorem js_fin {γ : Type} {f : FS γ} {g : γ} (n : Nat) (hc : S.cs.take n = f.cells' g) (hx : f.res g = .v .non) : JS X B S [] (fend B f g) := js_nil fun T tv σ H hs => by
  have h := Out.take n (Sta.only (hs.push (x := .v .non) fun _ _ => .v))
  show Out B (f.res g) (f.cells' g) .non H
  rw [hx, ← hc]
  exact h
theorem js_loopEnd {π ι : Type} {Sq : π → ι → Stt} {s' : ι} (n : Nat) (q : π) (f : Fgt S.sl (Sq q s').sl) (hc : S.cs.take n = (Sq q s').cs) (hD : D.nx = toE B fun q => Sq q s') : JS X B S [] D := js_nil fun T tv σ H h => by
  show D.nx T tv σ H
  rw [hD]
  exact ⟨q, le_fgt (sl := (Sq q s').sl) (cs := (Sq q s').cs) n f hc _ _ _ _ h⟩
end
def Slot.isAny : Option Slot → Bool
  | some .any => true
  | none => true
  | _ => false
theorem any_at {sl : List Slot} {vs : List Nat} (h : (vs.all fun i => Slot.isAny sl[i]?) = true) : AnyAt sl vs := fun i hi s hs => by
  have := List.all_eq_true.mp h i hi
  rw [hs] at this
  cases s with
  | any => rfl
  | v w => cases this
  | val t => cases this
  | own c => cases this
  | ownA _ c => cases this
  | otup _ => cases this
  | say φ => cases this
theorem sql_mono {K : PySem.W.Frag} {G G' : Hp} {a : Addr} {xs : List V} (h : SqL K G a xs) (e : Ex G G') : SqL K G' a xs := by
  rcases h with (h | ⟨o, h⟩) | h
  · exact .inl (.inl (e _ _ h))
  · exact .inl (.inr ⟨o, e _ _ h⟩)
  · exact .inr h
theorem inJE {Y : Cx} {B : Base} {S S' : Stt} {e : Expr} {x : Slot} {k : Nat} (hr : Room k Y.A) (hN : Y.N.Nodup) (f : Room k Y.A → Y.N.Nodup → JE Y B S e S' x) : JE Y B S e S' x := f hr hN
theorem inJTs {Y : Cx} {B : Base} {S S' : Stt} {es : List Expr} {p : Bool} {k : Nat} (hr : Room k Y.A) (hN : Y.N.Nodup) (f : Room k Y.A → Y.N.Nodup → JTs Y B S es S' p) : JTs Y B S es S' p := f hr hN
theorem inJG {Y : Cx} {B : Base} {S S' : Stt} {tg : Expr} {x : Slot} {ws : List Nat} (hN : Y.N.Nodup) (f : Y.N.Nodup → JG Y B S tg x S' ws) : JG Y B S tg x S' ws := f hN
end J
namespace J
universe u w
open PySem L2
open PySem.W (Datum DatumOrd Holds HoldAll T3 T4 Tup)
def insG {α : Type} (xs : List α) (i : Int) (t : α) : Option (List α) := if xs.length < 16777216 ∧ 0 ≤ i ∧ i < 9223372036854775808 then some (xs.take i.toNat ++ [t] ++ xs.drop i.toNat) else none
section
variable {X : Cx} {B : Base} {S S1 S2 S3 : Stt} {x y z : Slot} {a b e o : Expr} {es : List Expr} {pos apos : Pos} {D : FE} {rest : List Stmt} {kk : Nat} {tg : Expr} {p : Addr}
theorem je_insG {α : Type} [DecidableEq α] [Datum α] {xs ys : List α} {t : α} (k : Nat) {i : Int} {e2 : Expr} {ss0 : List Slot} (ho : JE X B S o S1 (.v (.ref p))) (hk0 : S1.cs[k]? = some (p, .lst ss0)) (he : JE X B S1 e S2 (.val i)) (he2 : JE X B S2 e2 S3 (.val t)) (hk : S3.cs[k]? = some (p, .lst (xs.map Slot.val))) (h : insG xs i t = some ys)
    (hbase : attributeBase o "insert" X.env (eval o X.env) = eval o X.env := by rfl) (hst : starEach [e, e2] X.env = (false, eval e X.env) :: starEach [e2] X.env := by rfl) (hst2 : starEach [e2] X.env = (false, eval e2 X.env) :: starEach [] X.env := by rfl)
    (hfew : ((backTo pos (starEach [e, e2] X.env)).all (fun x => !x.1) && (backToKw pos (keywordEach [] X.env)).all (fun x => x.1.isSome) && decide (([e, e2] : List Expr).length + ([] : List Keyword).length + (if ([] : List Keyword).isEmpty then 0 else 1) < 30)) = true := by rfl)
    (hline : (apos.endLine == pos.line) = true := by rfl) (hplain : (backTo pos (starEach [e2] X.env)).any (·.1) = false := by rfl) : JE X B S (.Call (.Attribute o "insert" apos) [e, e2] [] pos) ⟨S3.sl, S3.cs.set k (p, .lst (ys.map Slot.val))⟩ (.v .non) := by
  unfold insG at h
  by_cases c : xs.length < 16777216 ∧ 0 ≤ i ∧ i < 9223372036854775808
  · rw [if_pos c] at h
    cases h
    have := je_insert (y := .val t) k ho hk0 he he2 hk (plain_map xs) (by rw [List.length_map]; exact c.1) c.2 rfl hbase hst hst2 hfew hline hplain
    rw [List.map_append, List.map_append, List.map_take, List.map_drop]
    exact this
  · rw [if_neg c] at h; cases h
end
end J
namespace J
open PySem PySem.Spec PyProof.Rows L2
open PySem.W (Datum)
abbrev eSet (w : World) : Obj := { cls := .type "set", dict := none, data := .set #[] 0 (.fresh 0 0 (!w.params.followText "set-order")) }
section
variable {P : Program} {w : World} {A : Around} {E : Value → Shared → Prop} {s : Shared}
set_option maxHeartbeats 3200000 in
theorem set_lst {l : Addr} {items : Array Value} (ns : List Int) {Q : Value → Shared → Prop} (hh : A.handled = none) (hl : s.heap.IsList l items) (hit : IntsAre items.toList ns) (hb : ns.length + 1 < scanBound)
    (h : ∀ (h' : Heap) (tk c : Nat), SetR w h' s.heap.objs.size (fun j => decide (j ∈ ns)) c → c ≤ ns.length → (∀ b o, s.heap.get? b = some o → h'.get? b = some o) → Q (.ref s.heap.objs.size) { s with heap := h', toks := tk }) :
    wpAny (model P w) A (call (.type "set") [.ref l]) Q E s := by
  have size_eq : items.size = ns.length := (Array.length_toList (xs := items)).symm.trans (IntsAre.length hit)
  obtain ⟨c, tl, hmro⟩ := F.called_set.mro
  have made := F.called_set.made
  have self := F.called_set.sub
  refine wpAny_call (codeAny_of_tree (?_ : wpAny _ _ (callAny (.type "set") _) _ _ _))
  refine wpAny_pure ⟨Code.quiet_builtin _ (by decide +kernel), codeAny_builtin F.entry_type_call ?_⟩
  rw [A.under_plain (weight_type_call_type "set" [.ref l] []) rfl]
  have noType := F.called_set.notType
  have canMake := F.called_set.canCreate
  have callOk := F.typeCall_set_1 (.ref l)
  repeat (any_goals (first | assumption | wp_step))
  refine codeAny_mono (code_set_led1 (.ref l) (E := E) (Q₁ := fun o1 z => o1 = .ref s.heap.objs.size ∧ z = { s with heap := s.heap.push (eSet w) }) ⟨rfl, rfl⟩) fun r1 z hr => ?_
  cases r1 with
  | error e => exact hr
  | ok fl =>
    cases fl with
    | ret o1 =>
      obtain ⟨rfl, rfl⟩ := hr
      have at0 : (s.heap.push (eSet w)).get? s.heap.objs.size = some (eSet w) := Heap.get?_push_size _ rfl
      have ty0 : Shared.TypeIs { s with heap := s.heap.push (eSet w) } (.ref s.heap.objs.size) "set" := ⟨_, at0, rfl⟩
      have look1 := F.called_set.init.lookup
      have bind1 := F.called_set.init.bind (.ref s.heap.objs.size)
      repeat (any_goals (first | assumption | wp_step))
      refine codeAny_mono (codeAny_call_builtin (R := wants (fun r z => r = .none ∧ ∃ h' tk c, z = { s with heap := h', toks := tk } ∧ SetR w h' s.heap.objs.size (fun j => decide (j ∈ ns)) c ∧ c ≤ ns.length ∧ ∀ b o, s.heap.get? b = some o → h'.get? b = some o) E) F.called_set.init.plain F.entry_set_init (check_set_init_1 ty0 ?_)) fun r2 z2 hr2 => ?_
      · obtain ⟨⟨oc, od, odt, osl⟩, lo, lc, nl, ld⟩ := hl
        simp only at lc ld
        subst lc
        subst ld
        have lo' := Heap.get?_push_of_some (eSet w) lo
        have sub1 := F.sub_list_set
        have sub2 := F.sub_list_frozenset
        have ne1 : (Value.type "list" == Value.type "dict") = false := by decide
        have isl : (s.heap.push (eSet w)).IsList l items := ⟨_, lo', rfl, nl, rfl⟩
        unfold Builtin.«set.__init__» noKeywords Builtin.Frozenset.updateFrom
        generalize ePI : pyIter = PI
        wp_walk
        subst ePI
        refine wpAny_pyIter_list isl (wpAny_bind (wpAny_runValue ?_))
        have lt0 : l < s.heap.objs.size := Heap.lt_size lo
        have none3 : A.in1.in1.in1.handled = none := by simp [hh]
        have sz1 : (s.heap.push (eSet w)).objs.size = s.heap.objs.size + 1 := Heap.size_push ..
        have apart : l ≠ (s.heap.push (eSet w)).objs.size := by rw [sz1]; exact Nat.ne_of_lt (Nat.lt_succ_of_lt lt0)
        have notin : s.heap.objs.size ∉ [(s.heap.push (eSet w)).objs.size, l] := by
          rw [sz1]
          intro q
          rcases List.mem_cons.mp q with q | q
          · exact Nat.ne_of_lt (Nat.lt_succ_self _) q
          · exact Nat.ne_of_gt lt0 (List.mem_singleton.mp q)
        have vals : ∀ (i : Nat) (v : Value), items[i]? = some v → ∃ k t, ns[i]? = some k ∧ v = .int k t := fun i v hv => by
          have hi : i < ns.length := size_eq ▸ (Array.getElem?_eq_some_iff.mp hv).1
          obtain ⟨t, e⟩ := IntsAre.int_at hit i v (by rw [Array.getElem?_toList]; exact hv)
          exact ⟨_, t, List.getElem?_eq_getElem hi, by rw [e, List.getD_eq_getElem?_getD, List.getElem?_eq_getElem hi]; rfl⟩
        refine set_update_ints ((Walks.list none3 _ l apart items).toS) s.heap.objs.size notin ns size_eq hb vals (items.size - 0) 0 _ (by omega) (Nat.zero_le _) ⟨⟨_, Heap.get?_push_size _ rfl, rfl, rfl⟩, isl.push _⟩ ?first ?last
        case first => exact ⟨0, Nat.le_refl 0, setR_new_at (Heap.get?_push_of_some _ at0)⟩
        case last =>
          rintro ⟨h', g2, d2, t2, o2⟩ c2 mv hc2 R2
          have e1 : g2 = s.gens := mv.gens
          have e2 : d2 = s.drawn := mv.drawn
          have e3 : o2 = s.os := mv.os
          subst e1 e2 e3
          refine wpAny_pure (?_ : wpAny _ _ (ret Value.none) _ _ _)
          refine wpAny_pure ⟨rfl, h', t2, c2, rfl, R2, size_eq ▸ hc2, fun b o e => ?_⟩
          have lb : b < s.heap.objs.size := Heap.lt_size e
          refine mv.heap b o ?_ (Heap.get?_push_of_some _ (Heap.get?_push_of_some _ e))
          rw [sz1]
          intro q
          rcases List.mem_cons.mp q with q | q
          · exact Nat.ne_of_lt lb q
          · exact Nat.ne_of_lt (Nat.lt_succ_of_lt lb) (List.mem_singleton.mp q)
      · cases r2 with
        | error e => exact hr2
        | ok f2 =>
          cases f2 with
          | ret r =>
            obtain ⟨rfl, h', tk, c', rfl, R2, hc2, k2⟩ := hr2
            repeat (any_goals (first | assumption | wp_step))
            exact h _ _ _ R2 hc2 k2
          | _ => exact hr2.elim
    | _ => exact hr.elim
set_option maxHeartbeats 3200000 in
/-- sorted(a), a set of whole numbers, however many -/
theorem sorted_setN {a : Addr} {S : Int → Bool} {n : Nat} {Q : Value → Shared → Prop} (R : SetR w s.heap a S n) (hh : A.handled = none)
    (hQ : ∀ (z : Shared) (p : Addr) (out : Array Value) (c : Nat) (ns : List Int), (∀ b o, s.heap.get? b = some o → z.heap.get? b = some o) → z.gens = s.gens → z.os = s.os → s.heap.objs.size ≤ p → z.heap.get? p = some (seqObj "list" out c) → IntsAre out.toList ns → ns.Pairwise (· < ·) → (∀ k, k ∈ ns ↔ S k = true) → ns.length = n → Q (.ref p) z) :
    wpAny (model P w) A (call (.builtin "sorted") [.ref a]) Q E s := by
  obtain ⟨o, es, ep, t, ho, hex, hd, good, nodup, mem, bnd, fits, rfl, ris, led⟩ := R
  refine Calls.call_function_entry kind_sorted plain_sorted entry_sorted (args_sorted1 _) ?_
  unfold Builtin.«sorted»
  refine wpAny_bind (m := checkCount "sorted" 1 1 _) (wpAny_pure ?_)
  refine wpAny_bind (collect_set (A := A.in1) hh ⟨o, ho, hex.1, hd⟩ fits bnd ris led fun s1 vs k1 hz g1 o1 pm => ?_)
  have lenv : vs.length = es.size := by rw [pm.length_eq, List.length_map, Array.length_toList]
  have lenl : vs.length ≤ sizeLine := by rw [lenv]; exact fits_of_scanBound bnd
  have kints : IntsAre vs (vs.map Builtin.Re.reRawOf) := ints_of vs fun v hv => by
    obtain ⟨q, hq, rfl⟩ := List.mem_map.mp (pm.mem_iff.mp hv)
    obtain ⟨k, tk, h1, _⟩ := good q hq
    exact ⟨k, tk, h1⟩
  have keys : (vs.map Builtin.Re.reRawOf).Perm (es.toList.map keyOf) := by
    have q := pm.map Builtin.Re.reRawOf
    rwa [List.map_map] at q
  refine wpAny_bind (wpAny_newList ?_ lenl)
  have lst : (s1.heap.push (seqObj "list" vs.toArray 0)).get? s1.heap.objs.size = some (seqObj "list" vs.toArray 0) := Heap.get?_push_size _ rfl
  refine wpAny_bind (wpAny_holding (wpAny_call_entry slot_list_sort ⟨_, lst, rfl⟩ entry_list_sort (SrtO.list_sort_ord SrtO.swo_int lst lenl (fun h2 => SrtO.ints_sortable kints h2) fun out h1 h2 => ⟨_, rfl, ?_⟩) (args_list_sort _)))
  obtain ⟨u1, u2, u3⟩ := SrtO.ints_out kints h1 h2
  obtain ⟨c, hc⟩ := sortedHeap_at (vs := vs) (out := out.toArray) lst
  have pn := u2.trans keys
  have inc := lt_of_le_nodup _ u3 (pn.nodup_iff.mpr nodup)
  refine wpAny_pure ⟨_, rfl, hQ _ s1.heap.objs.size out.toArray c _ (fun b u e => ?_) g1 o1 hz hc (by simpa using u1) inc (fun k => by rw [pn.mem_iff, ← mem k]) ?_⟩
  · have lt := Heap.lt_size (k1 b u e)
    refine Eq.trans (sortedHeap_old (Nat.ne_of_lt lt) ?_) (Heap.get?_push_of_some _ (k1 b u e))
    rw [size_push']
    exact Nat.lt_succ_of_lt lt
  · rw [pn.length_eq, List.length_map, Array.length_toList]
end
def insS (x : Int) : List Int → List Int
  | [] => [x]
  | y :: ys => if x < y then x :: y :: ys else if x = y then y :: ys else y :: insS x ys
def sset (ns : List Int) : List Int := ns.foldr insS []
theorem insS_mem {x k : Int} : ∀ {l : List Int}, k ∈ insS x l ↔ k = x ∨ k ∈ l
  | [] => by simp [insS]
  | y :: ys => by
    unfold insS
    split
    · simp
    · split
      · rename_i e
        subst e
        simp
      · simp only [List.mem_cons, insS_mem (l := ys)]
        constructor
        · rintro (h | h | h)
          · exact .inr (.inl h)
          · exact .inl h
          · exact .inr (.inr h)
        · rintro (h | h | h)
          · exact .inr (.inl h)
          · exact .inl h
          · exact .inr (.inr h)
theorem insS_inc {x : Int} : ∀ {l : List Int}, l.Pairwise (· < ·) → (insS x l).Pairwise (· < ·)
  | [], _ => by simp [insS]
  | y :: ys, h => by
    obtain ⟨h1, h2⟩ := List.pairwise_cons.mp h
    unfold insS
    split
    · rename_i e
      exact List.pairwise_cons.mpr ⟨(fun z hz => (List.mem_cons.mp hz).elim (fun q => q ▸ e) fun q => Int.lt_trans e (h1 z q)), h⟩
    · split
      · exact h
      · exact List.pairwise_cons.mpr ⟨(fun z hz => (insS_mem.mp hz).elim (fun q => by omega) fun q => h1 z q), insS_inc h2⟩
theorem sset_inc : ∀ ns : List Int, (sset ns).Pairwise (· < ·)
  | [] => List.Pairwise.nil
  | n :: ns => insS_inc (sset_inc ns)
theorem sset_mem {k : Int} : ∀ {ns : List Int}, k ∈ sset ns ↔ k ∈ ns
  | [] => by simp [sset]
  | n :: ns => by
    show k ∈ insS n (sset ns) ↔ _
    rw [insS_mem, sset_mem (ns := ns), List.mem_cons]
theorem inc_ext : ∀ {xs ys : List Int}, xs.Pairwise (· < ·) → ys.Pairwise (· < ·) → (∀ k, k ∈ xs ↔ k ∈ ys) → xs = ys
  | [], [], _, _, _ => rfl
  | [], y :: ys, _, _, h => absurd ((h y).mpr List.mem_cons_self) (by simp)
  | x :: xs, [], _, _, h => absurd ((h x).mp List.mem_cons_self) (by simp)
  | x :: xs, y :: ys, hx, hy, h => by
    obtain ⟨x1, x2⟩ := List.pairwise_cons.mp hx
    obtain ⟨y1, y2⟩ := List.pairwise_cons.mp hy
    have e : x = y := by
      rcases List.mem_cons.mp ((h x).mp List.mem_cons_self) with e | e
      · exact e
      · rcases List.mem_cons.mp ((h y).mpr List.mem_cons_self) with e2 | e2
        · exact e2.symm
        · have := y1 x e
          have := x1 y e2
          omega
    subst e
    rw [inc_ext x2 y2 fun k => ?_]
    have hk := h k
    simp only [List.mem_cons] at hk
    constructor
    · intro hm
      rcases hk.mp (.inr hm) with e | e
      · subst e; have := x1 k hm; omega
      · exact e
    · intro hm
      rcases hk.mpr (.inr hm) with e | e
      · subst e; have := y1 k hm; omega
      · exact e
def tSetN (K : PySem.W.Frag) (ta : TE) (lim : Nat) (R : List Int → VK → Hp → Prop) : TE := fun σ H Q => ta σ H fun x H1 => ∃ (l : Addr) (ns : List Int), x = .ref l ∧ SqL K H1 l (ns.map V.int) ∧ ns.length ≤ lim ∧ R ns Q H1
section
variable {X : Cx} {a : Expr} {ta : TE} {p p2 q pos : Pos}
theorem pe_sortSetN (hg : Gl X "sorted") (hm : X.mg "sorted" = none) (hg2 : Gl X "set") (hm2 : X.mg "set" = none) (ha : PE X a ta) (hc : X.calm = true) (na : starEach [a] X.env = (false, eval a X.env) :: starEach [] X.env) :
    PE X (.Call (.Name "sorted" p) [.Call (.Name "set" p2) [a] [] q] [] pos) (tSetN X.K ta 4000 fun ns Q H => ∀ b, H b = none → Q (.ref b) (upd H b (.lst ((sset ns).map V.int)))) := by
  refine ⟨fun pins s σ H Q I h => ?_⟩
  refine Call_ (ld_blt I hg hm boot_sorted (PyProof.Rows.callWith_builtin1 (PyProof.Rows.args_cons ?_ rfl) rfl rfl))
  refine Call_ (ld_blt I hg2 hm2 boot_set (PyProof.Rows.callWith_type1 (PyProof.Rows.args_cons (thn (ha.run pins s σ H _ I h) fun v s1 ⟨x, H1, I1, r1, q1⟩ => PyProof.Rows.args_nil ?_) na) na rfl))
  obtain ⟨l, ns, rfl, hq, hl, q1⟩ := q1
  cases r1
  obtain ⟨its, r, pl, hz⟩ := I1.list hq
  refine set_lst ns (I1.ok.hd hc) pl.isList (by simpa using RZ.intsAre_vals r) (by unfold scanBound; omega) fun h' tk c hS hcn hk => PyProof.Rows.args_nil ?_
  refine sorted_setN (s := { s1 with heap := h', toks := tk }) hS (I1.ok.hd hc) fun z b out c2 ns' kz gz oz hb hz2 hi inc mem hlen => ?_
  have e : ns' = sset ns := inc_ext inc (sset_inc ns) fun k => by rw [mem k, sset_mem, decide_eq_true_eq]
  subst e
  have I2 : Inv X pins σ H1 { s1 with heap := h', toks := tk } := I1.kept hk
  have hn : H1 b = none := I2.hok.fresh hb
  have short : ((sset ns).map V.int).length ≤ sizeLine := by rw [List.length_map, hlen, sizeLine_eq]; omega
  exact ⟨.ref b, upd H1 b (.lst ((sset ns).map V.int)), I2.call' (ch := []) oz (Un.laid kz hb hn) (I2.hok.laid kz hb ⟨short, out.toList, c2, vals_of_ints hi, hz2⟩) (by rw [gz]; exact I2.bare) (fun _ z => nomatch z), rfl, q1 b hn⟩
end
section
variable {X : Cx} {B : Base} {S S1 S2 S3 : Stt} {x y z : Slot} {a b e o : Expr} {es : List Expr} {pos apos p p2 q : Pos}
def setG (ns : List Int) : Option (List Int) := if ns.length ≤ 4000 then some (sset ns) else none
theorem setG_of {ns r : List Int} (h : setG ns = some r) : ns.length ≤ 4000 ∧ r = sset ns := by
  unfold setG at h
  by_cases c : ns.length ≤ 4000
  · rw [if_pos c] at h; cases h; exact ⟨c, rfl⟩
  · rw [if_neg c] at h; cases h
theorem lv_ints {ns : List Int} {x : Slot} {K : PySem.W.Frag} (hl : Lv K B S x (ns.map Slot.val)) {T : List Slot} {σ : L2.St} {v : V} {tv : List V} {H G : Hp} {as bs : List Addr} (z : St0 B S (x :: T) σ (v :: tv) H G as bs) : ∃ l, v = .ref l ∧ SqL K H l (ns.map V.int) := by
  obtain ⟨l, vs, rfl, hq, hs⟩ := hl z
  have e : vs = ns.map V.int := by
    have key : ∀ {ns : List Int} {vs : List V}, SsI G H (ns.map Slot.val) vs [] → vs = ns.map V.int := fun {ns} => by
      induction ns with
      | nil => intro vs h; cases h; rfl
      | cons n ns ih =>
        intro vs h
        cases vs with
        | nil => cases h
        | cons v vs =>
          obtain ⟨h1, h2⟩ := h.cons_nil
          have hd := sl_dq h1
          cases (show Dq _ _ (PyData.int n) from hd)
          rw [ih h2]
          rfl
    exact key hs
  exact ⟨l, rfl, e ▸ hq⟩
theorem je_sortSet {ns r : List Int} (hm : X.mg "sorted" = none) (hm2 : X.mg "set" = none) (ha : JE X B S a S1 x) (hl : Lv X.K B S1 x (ns.map Slot.val)) (h : setG ns = some r) (hc : X.calm = true := by rfl) (hg : Gl X "sorted" := by rfl) (hg2 : Gl X "set" := by rfl) (na : starEach [a] X.env = (false, eval a X.env) :: starEach [] X.env := by rfl) :
    JE X B S (.Call (.Name "sorted" p) [.Call (.Name "set" p2) [a] [] q] [] pos) S1 (.own (.lst (r.map Slot.val))) := fun T tv σ H Q hs kq =>
  pe1 (pe_sortSetN hg hm hg2 hm2 pe0 hc na) (ha _ _ _ _ _ hs fun v H1 h1 => by
    obtain ⟨G, as, bs, z⟩ := id h1
    obtain ⟨l, rfl, hq⟩ := lv_ints hl z
    obtain ⟨hl4, rfl⟩ := setG_of h
    refine ⟨l, ns, rfl, hq, hl4, fun b hb => ?_⟩
    obtain ⟨G2, as2, bs2, z2⟩ := h1.drop
    refine kq _ _ (z2.newO hb (.lst ?_))
    have key : ∀ (K2 : Hp) (ns : List Int), SsI G2 K2 (ns.map Slot.val) (ns.map V.int) [] := fun K2 ns => by
      induction ns with
      | nil => exact .nil
      | cons n ns ih => exact .cons (as := []) (sl_int n) ih
    exact key _ _)
end
end J
namespace J
universe u w
open PySem L2
open PySem.W (Datum DatumOrd Holds HoldAll T3 T4 Tup)
theorem dqAll_len {G : Hp} : ∀ {vs : List V} {ds : List PyData}, DqAll G vs ds → vs.length = ds.length
  | _, _, .nil => rfl
  | _, _, .cons _ h => congrArg Nat.succ (dqAll_len h)
section
variable {X : Cx} {B : Base} {S S1 S2 S3 : Stt} {x y z : Slot} {a b e o : Expr} {es : List Expr} {pos apos : Pos} {kk : Nat}
theorem dq_tup {α : Type} [DecidableEq α] [Datum α] {G : Hp} {v : V} {t : Tup α} (h : Dq G v (Datum.toD t)) : ∃ l vs, v = .ref l ∧ G l = some (.tup vs) ∧ SsI G G (t.items.map Slot.val) vs [] := by
  cases (show Dq G v (.tuple (t.items.map Datum.toD)) from h) with
  | @tup l vs _ hH hd => exact ⟨l, vs, rfl, hH, dqAll_ss hd⟩
/-- for x in t, a tuple of one kind -/
theorem ji_tupv {α : Type} [DecidableEq α] [Datum α] {t : Tup α} {tg : Expr} (ha : JE X B S e S1 (.val t)) : JI X B S tg e S1 [.val t] (t.items.map Slot.val) (fun _ => True) := fun T tv σ H R hs q =>
  pi1 (pi_tup pe0) (ha _ _ _ _ _ hs fun v H1 h1 => by
    obtain ⟨G, as, bs, z⟩ := id h1
    obtain ⟨a1, a2, rfl, g1, z1⟩ := z.pop
    obtain ⟨l, vs, rfl, hG, hss⟩ := dq_tup (sl_dq g1)
    have again : ∀ {S : Stt} {T : List Slot} {σ : L2.St} {tv : List V} {H : Hp}, Sta B S ([.val t] ++ T) σ ([.ref l] ++ tv) H → ∃ ws, SqT X.K H l ws ∧ (t.items.map Slot.val).length = ws.length ∧ ∀ (i : Nat) s, (t.items.map Slot.val)[i]? = some s → ∃ u, ws[i]? = some u ∧ Sta B S (s :: ([.val t] ++ T)) σ (u :: ([.ref l] ++ tv)) H := fun {S T σ tv H} h => by
      obtain ⟨G, as, bs, z⟩ := id h
      obtain ⟨a1, a2, rfl, g1, z1⟩ := z.pop
      obtain ⟨l', ws, e, hG, hss⟩ := dq_tup (sl_dq g1)
      cases e
      refine ⟨ws, .inl (.inl (z1.sub _ _ hG)), hss.len, fun i s hi => ?_⟩
      obtain ⟨u, hu, su⟩ := hss.get i hi
      exact ⟨u, hu, z.push su.any'⟩
    refine ⟨l, rfl, ⟨vs, .inl (.inl (z1.sub _ _ hG))⟩, q (Itt X.K l) [.ref l] H1 rfl h1 ⟨fun S T σ tv H i s _ hi h => ?_, fun S T σ tv H _ h => ?_⟩⟩
    · obtain ⟨ws, hr, _, f⟩ := again h
      obtain ⟨u, hu, hS⟩ := f i s hi
      refine ⟨⟨ws, u, hr, hu⟩, fun v H' hy => ?_⟩
      obtain ⟨rfl, hy⟩ := hy
      have e := hy ws hr
      rw [hu] at e
      cases e
      exact hS
    · obtain ⟨ws, hr, hl, _⟩ := again h
      exact ⟨ws, hr, Nat.le_of_eq hl.symm⟩)
/-- tuple(xs) of a list of data -/
theorem je_tupL {α : Type} [DecidableEq α] [Datum α] {xs : List α} {p : Pos} (hm : X.mg "tuple" = none) (ha : JE X B S e S1 x) (hl : Lv X.K B S1 x (xs.map Slot.val)) (hg : Gl X "tuple" := by rfl) (hst : starEach [e] X.env = (false, eval e X.env) :: starEach [] X.env := by rfl) : JE X B S (.Call (.Name "tuple" p) [e] [] pos) S1 (.val (Tup.mk xs)) :=
  je_callT call_tuple_of hm rfl (ja_cons ha ja_nil hst) (oc1 fun T tv σ v H Q h q => by
    obtain ⟨G, as, bs, z⟩ := id h
    obtain ⟨l, vs, rfl, hr, hss⟩ := hl z
    obtain ⟨a1, a2, rfl, _, z1⟩ := z.pop
    refine ⟨l, vs, rfl, .inl ⟨hr, fun b hb => q _ _ (z1.newG hb (.val ?_))⟩⟩
    exact .tup upd_same (dqAll_mono (ex_upd (Ex.refl G) (ex_none z1.sub hb)) (ss_dqAll hss))) hg (he := hst)
end
theorem bndE {α β : Type} {m : Option α} {f : α → Option β} {r : β} (h : m.bind f = some r) : ∃ x, m = some x ∧ f x = some r := by
  cases m with
  | none => cases h
  | some x => exact ⟨x, rfl, h⟩
end J
namespace J
open PySem PySem.Spec PyProof.Rows L2
open PySem.W (Datum Tup)
section
variable {X : Cx} {B : Base} {S S1 S2 S3 : Stt} {x y z : Slot} {a b e o : Expr} {es : List Expr} {pos apos : Pos} {D : FE} {rest : List Stmt} {kk : Nat} {tg : Expr} {p : Addr}
def e2 {α β : Type} [DecidableEq α] [Datum α] [DecidableEq β] [Datum β] : Sum α β → Slot
  | .inl x => .val x
  | .inr x => .val x
end
end J
namespace J
open PySem PySem.Spec PyProof.Rows L2
open PySem.W (Datum Tup)
def dget {β : Type} (m : List (Int × β)) (k : Int) : Option β := (m.find? fun q => decide (q.1 = k)).map (·.2)
def dhas {β : Type} (m : List (Int × β)) (k : Int) : Bool := (dget m k).isSome
def dput {β : Type} (m : List (Int × β)) (k : Int) (v : β) : List (Int × β) := if (m.any fun q => decide (q.1 = k)) = true then m.map (fun q => if q.1 = k then (q.1, v) else q) else m ++ [(k, v)]
def dputG {β : Type} (m : List (Int × β)) (k : Int) (v : β) : Option (List (Int × β)) := if m.length < 16777216 then some (dput m k v) else none
section
variable {X : Cx} {B : Base} {S S1 S2 S3 : Stt} {x y z : Slot} {a b e o : Expr} {es : List Expr} {pos apos : Pos} {D : FE} {rest : List Stmt} {kk : Nat} {tg : Expr} {p : Addr} {β : Type} [DecidableEq β] [Datum β] {m : List (Int × β)} {key : Int}
theorem small16 {n : Nat} (h : n < 16777216) : n < sizeLine := by rw [sizeLine_eq]; omega
end
section
variable {X : Cx} {B : Base} {S S1 S2 S3 : Stt} {x y z : Slot} {a b e o : Expr} {es : List Expr} {pos apos : Pos} {D : FE} {rest : List Stmt} {kk : Nat}
theorem je_bty {n : Str} {id : String} (hm : X.mg n = none) (hv : bootBuiltins n = some (.type id)) (hg : Gl X n := by rfl) (hn : n ≠ "__name__" := by decide) (hd : (n == ("__debug__" : Str)) = false := by decide) : JE X B S (.Name n pos) S (.v (.ty id)) := fun T tv σ H Q h q =>
  pe1 (pe_bltn hg hm hv (show RelV (.ty id) (.type id) from rfl) hn hd) (q _ _ (h.push fun _ _ => .v))
end
end J
namespace J
open PySem PySem.Spec PyProof.Rows L2
open PySem.W (Datum Tup)
def ddrop {β : Type} (m : List (Int × β)) (k : Int) : List (Int × β) := m.filter fun q => decide (q.1 ≠ k)
section
variable {X : Cx} {B : Base} {S S1 S2 S3 : Stt} {x y z : Slot} {a b c e o : Expr} {es : List Expr} {pos apos cpos : Pos} {D : FE} {rest : List Stmt} {kk : Nat} {tg : Expr} {p : Addr} {β : Type} [DecidableEq β] [Datum β] {m : List (Int × β)} {key : Int}
def Stt.frz (S : Stt) (k : Nat) (p : Addr) (ob : Obj) (gs : List (Key × V)) (ss : List Slot) : Stt := ⟨S.sl, S.cs.set k (p, .fdk ob gs ss)⟩
def leP (a b : Int × Int) : Bool := decide (a.1 < b.1 ∨ (a.1 = b.1 ∧ a.2 ≤ b.2))
def sortP (xs : List (Int × Int)) : List (Int × Int) := xs.mergeSort leP
theorem dq_pr {G H : Hp} (hs : Ex G H) {v : V} {t : Int × Int} (h : Dq G v (Datum.toD t)) : ∃ l, v = .ref l ∧ H l = some (.tup [.int t.1, .int t.2]) := by
  cases (show Dq G v (.tuple [Datum.toD t.1, Datum.toD t.2]) from h) with
  | @tup l vs _ hH hd =>
    cases hd with
    | cons d1 hd => cases hd with
      | cons d2 hd => cases hd with
        | nil =>
          cases (show Dq G _ (.int t.1) from d1)
          cases (show Dq G _ (.int t.2) from d2)
          exact ⟨l, rfl, hs _ _ hH⟩
theorem ss_of_ints {G H : Hp} : ∀ xs : List Int, SsI G H (xs.map Slot.val) (xs.map V.int) []
  | [] => .nil
  | t :: xs => .cons (as := []) (sl_int t) (ss_of_ints xs)
/-- whatever stands for x, its type answers r -/
def Ty (K : PySem.W.Frag) (B : Base) (S : Stt) (x : Slot) (ans : String → Option Bool) : Prop := ∀ {T : List Slot} {σ : L2.St} {v : V} {tv : List V} {H G : Hp} {as bs : List Addr}, St0 B S (x :: T) σ (v :: tv) H G as bs → ∃ t : String, TyX K H v (.type t) ∧ ∀ id r, ans id = some r → kitB t id = some r
theorem ty_of {K : PySem.W.Frag} {t : String} {ans : String → Option Bool} (h : ∀ {T : List Slot} {σ : L2.St} {v : V} {tv : List V} {H G : Hp} {as bs : List Addr}, St0 B S (x :: T) σ (v :: tv) H G as bs → TyX K H v (.type t)) (ha : ∀ id r, ans id = some r → kitB t id = some r) : Ty K B S x ans := fun z => ⟨t, h z, ha⟩
/-- the answers of a type to the ones that are asked for -/
def ansOf (t : String) (id : String) : Option Bool := if id = "bool" ∨ id = "int" ∨ id = "str" ∨ id = "list" ∨ id = "tuple" then kitB t id else none
theorem ansOf_ok (t : String) : ∀ id r, ansOf t id = some r → kitB t id = some r := fun id r h => by
  unfold ansOf at h
  split at h
  · exact h
  · cases h
theorem ty_int {K : PySem.W.Frag} {i : Int} : Ty K B S (.val i) (ansOf "int") := ty_of (t := "int") (fun z => by
  have e := z.sta.int
  subst e
  exact .base (.int i)) (ansOf_ok _)
theorem je_isiG {q : Pos} {id : String} {r : Bool} {ans : String → Option Bool} (hm : X.mg "isinstance" = none) (ha : JE X B S a S1 x) (hb : JE X B S1 b S2 (.v (.ty id))) (hx : Ty X.K B S2 x ans) (hr : ans id = some r := by decide +kernel) (hg : Gl X "isinstance" := by rfl) (hst : starEach [a, b] X.env = (false, eval a X.env) :: starEach [b] X.env := by rfl) (hst2 : starEach [b] X.env = (false, eval b X.env) :: starEach [] X.env := by rfl) (hpl : (backTo pos (starEach [b] X.env)).any (·.1) = false := by rfl) : JE X B S (.Call (.Name "isinstance" q) [a, b] [] pos) S2 (.val r) :=
  je_callB call_isi hm PyProof.Rows.boot_isinstance (ja_cons ha (ja_cons hb ja_nil hst2) hst) (oc2 fun T tv σ v u H Q hs q => by
    have e2 := hs.drop.exact
    subst e2
    have ty : ∃ t : String, TyX X.K H v (.type t) ∧ ∀ id r, ans id = some r → kitB t id = some r := by
      obtain ⟨G, as, bs, z⟩ := (show Sta B S2 (x :: .v (.ty id) :: T) σ (v :: .ty id :: tv) H from hs)
      exact hx z
    obtain ⟨t, h1, h2⟩ := ty
    exact ⟨_, _, _, _, r, rfl, .ty id, h1, kit_ty (h2 id r hr), q _ _ (hs.drop.drop.push fun _ _ => sl_bl _)⟩) hg (by decide) (by decide) hst hpl
end
end J
namespace J
open PySem PySem.Spec PyProof.Rows L2
open PySem.W (Datum Tup)
section
variable {X : Cx} {B : Base} {S S1 S2 S3 : Stt} {x y z : Slot} {a b c e o : Expr} {es : List Expr} {pos apos cpos : Pos} {D : FE} {rest : List Stmt} {kk lv : Nat} {tg : Expr} {p C : Addr} {fs : List (Str × Slot)} {f m : Str}
theorem je_glob {n : Str} {t : Addr} (hm : X.mg n = some (.ref t)) (hg : Gl X n := by rfl) (hd : (n == ("__debug__" : Str)) = false := by decide) : JE X B S (.Name n pos) S (.v (.ref t)) := fun T tv σ H Q h q =>
  pe1 (pe_glob hg hm (show RelV (.ref t) (.ref t) from rfl) hd) (q _ _ (h.push fun _ _ => .v))
/-- a text not in a written part's tuple of texts -/
theorem jt_notInK {t : Addr} {s : Str} {ss : List Str} (ha : JE X B S a S1 (.val s)) (hb : JE X B S1 b S2 (.v (.ref t))) (ht : ∀ H, SqT X.K H t (ss.map V.str)) (hm : behindInMarks .NotIn b = false := by rfl) : JT X B S (.Compare a [.NotIn] [b] pos) S2 (!inV (.str s) (ss.map V.str)) :=
  jt_cmp op_notIn_seq ha hb (fun T tv σ v u H Q h q => by
    have e1 := h.exact
    have e2 := h.drop.str
    subst e1 e2
    exact ⟨t, _, rfl, .inr (ht H), rfl, by rw [List.all_map, List.all_eq_true]; intro _ _; rfl, q _ _ (h.drop.drop.push fun _ _ => sl_bl _)⟩) hm
end
end J
namespace J
open PySem PySem.Spec PyProof.Rows L2
open PySem.W (Datum Tup)
def pick {α : Type} (ord : List Nat) (xs : List α) : List α := ord.filterMap fun i => xs[i]?
theorem vals_get? {xs : List V} {us : List Value} (r : Vals xs us) (i : Nat) : (xs[i]? = none ∧ us[i]? = none) ∨ ∃ x u, xs[i]? = some x ∧ us[i]? = some u ∧ RelV x u := by
  cases e : xs[i]? with
  | none =>
    refine .inl ⟨rfl, ?_⟩
    rw [List.getElem?_eq_none_iff] at e ⊢
    rw [← r.length]
    exact e
  | some x =>
    obtain ⟨u, hu, ru⟩ := r.get e
    exact .inr ⟨x, u, rfl, hu, ru⟩
theorem pick_vals {xs : List V} {us : List Value} (r : Vals xs us) : ∀ ord : List Nat, Vals (pick ord xs) (pick ord us)
  | [] => .nil
  | i :: ord => by
    unfold pick
    rw [List.filterMap_cons, List.filterMap_cons]
    rcases vals_get? r i with ⟨e1, e2⟩ | ⟨x, u, e1, e2, ru⟩
    · rw [e1, e2]
      exact pick_vals r ord
    · rw [e1, e2]
      exact .cons ru (pick_vals r ord)
section
variable {X : Cx} {B : Base} {S S1 S2 S3 : Stt} {x y z : Slot} {a b c e o : Expr} {es : List Expr} {pos apos cpos : Pos} {D : FE} {rest : List Stmt} {kk lv : Nat} {tg : Expr} {kws : List Keyword}
/-- f(e, .., k = v, ..), what lacks filled up -/
theorem je_callN {γ : Type} {f : FS γ} {fa : Addr} {fd : FuncData} {ps ks : List Str} {nn : Nat} {n : Str} {q : Pos} {xs zs : List Slot} {cs1 cs2 : List (Addr × Cel)} {g0 : List Value → List Value → List Value → List Value} {gV : List V → List V → List V} (F : FnOk X.prog X.w X.K X.mg X.base CX0 kk fa fd ps f.sp) (hr : Room lv X.A) (hlv : kk ≤ lv) (hm : X.mg n = some (.ref fa)) (hk : PySem.W.keepIn X.K (.ref fa) = true) (hb : ∃ mv : List Value, KBn X.K fd ps nn ks (fun us ws => g0 us mv ws) gV)
    (ha : JA X B S (e :: es) S1 xs) (hkw : JK X B S1 kws S2 zs) (g : γ) (hpre : f.pre g) (hn : xs.length = nn) (hkl : zs.length = ks.length) (hx : ∀ {T : List Slot} {σ : L2.St} {vs ws tv : List V} {H : Hp}, vs.length = xs.length → ws.length = zs.length → Sta B S2 (zs ++ (xs ++ T)) σ (ws ++ (vs ++ tv)) H → (gV vs ws).length = (f.args g).length ∧ Sta B S2 (f.args g ++ T) σ (gV vs ws ++ tv) H) (hpk : Pk S2.cs (f.cells g) cs1) (hpt : Pt cs1 (f.cells' g) cs2) (hG : ∀ G', Ex B.G G' → f.preG g G' := by exact fun _ _ => trivial) (hg : Gl X n := by rfl)
    (hall : (backToKw pos (keywordEach kws X.env)).all (·.1.isSome) = true := by rfl) (hks : (backToKw pos (keywordEach kws X.env)).filterMap (·.1) = ks := by rfl)
    (hdb : (n == ("__debug__" : Str)) = false := by decide) (he : starEach (e :: es) X.env = (false, eval e X.env) :: starEach es X.env := by rfl)
    (hpl : ((backTo pos (starEach (e :: es) X.env)).any (·.1) || (backToKw pos (keywordEach kws X.env)).any (·.1.isNone)) = false := by rfl) :
    JE X B S (.Call (.Name n q) (e :: es) kws pos) ⟨S2.sl, cs2⟩ (f.res g) := fun T tv σ H Q h qq => by
  obtain ⟨mv, hb⟩ := hb
  refine pe1 (pe_callN F (hr.mono hlv) hg hm hk hb pass0 pa0 pk0 hall hks hdb he hpl) (ha _ _ _ _ _ h fun vs H1 hl h1 => hkw _ _ _ _ _ h1 fun ws H2 hl2 h2 => ?_)
  obtain ⟨l3, h3⟩ := hx hl hl2 h2
  exact ⟨hl.trans hn, hl2.trans hkl, sp_of f g hpre hG rfl l3 hpk hpt h3 qq⟩
end
end J
namespace J
open PySem PySem.Spec PyProof.Rows L2
open PySem.W (Datum Tup)
theorem dqAll_length {G : Hp} : ∀ {vs : List V} {ds : List PyData}, DqAll G vs ds → vs.length = ds.length
  | _, _, .nil => rfl
  | _, _, .cons _ h => congrArg Nat.succ (dqAll_length h)
section
variable {X : Cx} {B : Base} {S S1 S2 S3 : Stt} {x y z : Slot} {a b c e o : Expr} {es : List Expr} {pos apos cpos : Pos} {D : FE} {rest : List Stmt} {kk lv : Nat} {tg : Expr} {kws : List Keyword} {p : Addr}
/-- len of a written tuple -/
theorem je_lenT {q : Pos} {α : Type} [DecidableEq α] [Datum α] {t : α} {ds : List PyData} {n : Int} (hm : X.mg "len" = none) (ha : JE X B S e S1 (.val t)) (ht : Datum.toD t = .tuple ds) (hn : (ds.length : Int) = n) (hg : Gl X "len" := by rfl) (hst : starEach [e] X.env = (false, eval e X.env) :: starEach [] X.env := by rfl) : JE X B S (.Call (.Name "len" q) [e] [] pos) S1 (.val n) :=
  je_callB call_len_seq hm boot_len (ja_cons ha ja_nil hst) (oc1 fun T tv σ v H Q hs q => by
    obtain ⟨G, as, bs, z⟩ := id hs
    obtain ⟨a1, a2, rfl, g, _⟩ := z.pop
    have d := sl_dq g
    rw [ht] at d
    cases d with
    | @tup l vs _ hH hd =>
      refine ⟨l, vs, rfl, .inr (.inl (.inl (z.sub _ _ hH))), ?_⟩
      rw [dqAll_length hd, hn]
      exact q _ _ (hs.drop.push fun _ _ => sl_int _)) hg (by decide) (by decide) hst
end
end J
namespace J
open PySem L2
open PySem.Spec PyProof.Rows
open PySem.W (Datum)
section
variable {X : Cx} {B : Base} {S S1 S2 S3 : Stt} {x y z : Slot} {a b e o : Expr} {es : List Expr} {pos apos : Pos} {D : FE} {rest : List Stmt} {k : Nat} {tg : Expr}
theorem St0.newR {T : List Slot} {σ : L2.St} {tv : List V} {H G : Hp} {as bs : List Addr} {p : Addr} {o : HO} (z : St0 B S T σ tv H G as bs) (hp : H p = none) : St0 B S (.v (.ref p) :: T) σ (.ref p :: tv) (upd H p o) (upd G p o) ([] ++ as) bs := by
  have hg : G p = none := ex_none z.sub hp
  have eg : Ex G (upd G p o) := ex_upd (Ex.refl G) hg
  refine ⟨.cons .v (z.tmp.mono eg fun a ha => upd_ne (z.fresh hp a (List.mem_append_left _ ha))), z.cel.mono eg fun a ha => upd_ne (z.fresh hp a (List.mem_append_right _ ha)), z.slo.mono eg, z.nod, fun a ha => ?_, z.gro.trans eg, fun a u ha => ?_, fun a u ha => ?_, ex_upd z.frm (ex_none z.frm hp)⟩
  · rw [upd_ne (z.fresh hp a ha)]
    exact z.fre a ha
  · by_cases e : a = p
    · subst e
      exact .inr (.inl (ex_none z.frm hp))
    · rw [upd_ne e] at ha
      exact z.new a u ha
  · by_cases e : a = p
    · subst e
      rw [upd_same] at ha ⊢
      exact ha
    · rw [upd_ne e] at ha ⊢
      exact z.sub a u ha
end
end J
namespace J
open PySem L2
open PySem.W (Datum)
def ExA (a : Addr) (cls : Value) (d : Option Addr) : Heap → Prop := fun h => ∃ oe vs, h.get? a = some oe ∧ oe.cls = cls ∧ oe.dict = d ∧ oe.data = .fields vs ∧ vs[2]? = some .none
end J
namespace J
open PySem PySem.Spec PyProof.Rows L2
end J
namespace J
open PySem L2
open PySem.W (Datum)
abbrev exa (a : Addr) (cls : Value) (d : Option Addr) : HO := .ext (ExA a cls d)
section
variable {α : Type} [DecidableEq α] [Datum α]
/-- a refusal of the class at C, that bears w -/
def Xc (C : Addr) (w : α) : Hp → V → Prop := fun G u => ∃ (a d : Addr) (v : V), u = .ref a ∧ G a = some (exa a (.ref C) (some d)) ∧ G d = some (.xd [(("what" : Str), v)]) ∧ Dq G v (Datum.toD w)
end
end J
namespace J
open PySem L2
open PySem.W (Datum)
end J
namespace J
open PySem L2
open PySem.W (Datum)
section
variable {α : Type} [DecidableEq α] [Datum α]
/-- a refusal by name: those that there are, where their classes stand -/
structure Xw where
  ns : List Str
  xc : Str → Addr
def XcN (K : Xw) (x : Str × α) : Hp → V → Prop := fun G u => x.1 ∈ K.ns ∧ Xc (K.xc x.1) x.2 G u
def xsl (K : Xw) : Option (Str × α) → Slot
  | none => .v .non
  | some x => .say (XcN K x)
end
end J
namespace J
open PySem L2
open PySem.W (Datum)
/-- names that stand for classes -/
inductive NmL (X : Cx) : List Expr → List V → List Value → Prop where
  | nil : NmL X [] [] []
  | own {n : Str} {p : Pos} {C : Addr} {es : List Expr} {cs : List V} {us : List Value} (hg : Gl X n) (hm : X.mg n = some (.ref C)) (hd : (n == ("__debug__" : Str)) = false) (r : NmL X es cs us) : NmL X (.Name n p :: es) (.ref C :: cs) (.ref C :: us)
theorem NmL.cls {X : Cx} {es : List Expr} {cs : List V} {us : List Value} (h : NmL X es cs us) : Paired ClsV cs us := by
  induction h with
  | nil => exact .nil
  | own _ _ _ _ ih => exact .cons (.own _) ih
theorem NmL.len {X : Cx} {es : List Expr} {cs : List V} {us : List Value} (h : NmL X es cs us) : cs.length = es.length := by
  induction h with
  | nil => rfl
  | own _ _ _ _ ih => exact congrArg Nat.succ ih
abbrev Xw.all (K : Xw) : List Str := ("PageError" : Str) :: K.ns
end J
namespace J
open PySem L2
open PySem.W (Datum)
abbrev oo (a b : Option (Option Value)) : Bool := decide (a = b)
end J
namespace J
open PySem L2
open PySem.W (Datum)
theorem xsl_plain {α : Type} [DecidableEq α] [Datum α] {K : Xw} {o : Option (Str × α)} : (xsl K o).plain = true := by cases o <;> rfl
end J
namespace J
open PySem L2 LamX
open PySem.Spec PyProof.Rows
open PySem.W (Datum)
/-- one parameter, no other name of its own: captured ones and globals -/
structure LamP (sc scope : Scope) (p : Str) : Prop where
  kind : scope.kind = .function
  co : scope.isCoroutine = false
  gen : scope.isGenerator = false
  par : scope.names.lookup p = some .local
  own : ∀ y ∈ scope.names, (y.2 = .local → y.1 = p) ∧ y.2 ≠ .cell
  free : ∀ y ∈ scope.names, y.2 = .free → sc.names.lookup y.1 = some .cell ∨ sc.names.lookup y.1 = some .free
def lamPB (sc scope : Scope) (p : Str) : Bool :=
  decide (scope.kind = .function) && (!scope.isCoroutine && (!scope.isGenerator && (decide (scope.names.lookup p = some .local) &&
  ((scope.names.all fun y => (!decide (y.2 = .local) || decide (y.1 = p)) && !decide (y.2 = .cell)) && (scope.names.all fun y => !decide (y.2 = .free) || (decide (sc.names.lookup y.1 = some .cell) || decide (sc.names.lookup y.1 = some .free)))))))
theorem lamP_by {sc scope : Scope} {p : Str} (h : lamPB sc scope p = true) : LamP sc scope p := by
  unfold lamPB at h
  simp only [Bool.and_eq_true, Bool.or_eq_true, Bool.not_eq_true', decide_eq_true_eq, decide_eq_false_iff_not, List.all_eq_true] at h
  obtain ⟨h1, h2, h3, h4, h5, h6⟩ := h
  exact ⟨h1, h2, h3, h4, fun y hy => ⟨fun e => ((h5 y hy).1).resolve_left (fun n => n e), (h5 y hy).2⟩, fun y hy e => (h6 y hy).resolve_left fun n => n e⟩
section
variable {X : Cx} {pins : List (Addr × Obj)} {σ : L2.St} {H : Hp} {s : Shared}
theorem LamP.has {scope : Scope} {p : Str} (L : LamP X.env.scope scope p) (ok : X.Ok) : ∀ y ∈ scope.names, y.2 = .free → ∃ c, X.env.cells.lookup y.1 = some c := fun y hy e => by
  rcases L.free y hy e with k | k
  · exact ok.has _ (.inl k)
  · exact ok.has _ (.inr k)
/-- the context of its body: nothing leaves it but a value -/
def lamC (X : Cx) (A : Around) (outer : List Env) (s : Shared) (H : Hp) (scope : Scope) (f c' : Addr) : Cx where
  prog := X.prog
  w := X.w
  K := X.K
  mg := X.mg
  base := X.base
  A := A.deeper (lamEnv X scope s.heap.objs.size f c')
  N := X.N
  s_0 := s
  H_0 := H
  env := lamEnv X scope s.heap.objs.size f c'
  outer := outer
  stack := lamEnv X scope s.heap.objs.size f c' :: outer
  ex := []
  fn := fun _ => false
  calm := true
  pn := []
  xe := fun _ _ => False
theorem lam_in {A : Around} {outer : List Env} {scope : Scope} {f c' : Addr} {p : Str} {j : Nat} {v : V} {u : Value} {g : Heap} {tk : Nat} (I : Inv X pins σ H s) (L : LamP X.env.scope scope p) (e0 : Env0 X.prog X.w X.K X.mg X.base A outer s H) (hd : A.handled = none) (hN : X.N.Nodup) (hj : X.N[j]? = some p) (rv : RelV v u)
    (hns : g.Ns s.heap.objs.size fun y => [(p, u)].reverse.lookup y) (kp : ∀ b o, s.heap.get? b = some o → g.get? b = some o) : Inv (lamC X A outer s H scope f c') [] (σ.set j (some v)) H { s with heap := g, toks := tk } := by
  have caps := L.has I.ok
  have cm : ∀ {y c}, (cloFrom X.env.cells scope.names []).lookup y = some c → X.env.cells.lookup y = some c := fun {y c} e => by
    rcases cloFrom_mem (PySem.mem_of_lookup e) with z | ⟨z1, z2⟩
    · cases z
    · obtain ⟨c1, e1⟩ := caps _ z1 rfl
      have e1 : X.env.cells.lookup y = some c1 := e1
      have e2 : c = c1 := by rw [z2, e1] <;> rfl
      rw [e2]
      exact e1
  have look : ∀ {y}, scope.names.lookup y = some .free → ∃ c, (cloFrom X.env.cells scope.names []).lookup y = some c := fun {y} hl => mem_lookup (cloFrom_has (cells := X.env.cells) (acc := []) (PySem.mem_of_lookup hl : (y, NameKind.free) ∈ scope.names))
  have up : ∀ {c : Addr} {w : Option Value}, s.heap.IsCell c w → g.IsCell c w := fun ⟨o, h1, h2⟩ => ⟨o, kp _ _ h1, h2⟩
  have noA : ∀ b : Addr, b ∉ (lamC X A outer s H scope f c').ex := fun b z => absurd (show b ∈ ([] : List Addr) from z) (by simp)
  refine ⟨⟨e0.mod, L.kind, rfl, rfl, Nat.le_refl _, fun y z c e1 e2 => I.ok.inj y z c (cm e1) (cm e2), fun y hy => ?_, fun y c z _ => (nomatch (show false = true from z)), fun _ => hd, Around.frames_deeper e0.frames, .inr ⟨rfl, rfl⟩, fun b z => absurd z (noA b), e0.bs, e0.bsz, fun b _ _ => noA b, fun b z => absurd z (noA b), e0.funs, e0.frf⟩,
    rfl, e0.bare, Un.kept kp, ⟨_, hns, fun i y v' e1 e2 e3 => ?_⟩, fun y c e => ?_, e0.hok.fresh (Nat.le_refl _), fun y c e => I.freeC y c (cm e), fun q hq => absurd (show q ∈ ([] : List (Addr × Obj)) ++ [] from hq) (by simp), e0.hok.kept kp, by rw [List.length_set]; exact I.len⟩
  · have hy : scope.names.lookup y = some .cell ∨ scope.names.lookup y = some .free := hy
    rcases hy with hy | hy
    · exact absurd rfl (L.own _ (PySem.mem_of_lookup hy)).2
    · exact look hy
  · have e3 : Vis scope y := e3
    have e1 : X.N[i]? = some y := e1
    rcases e3 with k | k | k
    · have ey := (L.own _ (PySem.mem_of_lookup k)).1 rfl
      have ey : y = p := ey
      subst ey
      have : i = j := nodup_ix hN e1 hj
      subst this
      have hl : i < σ.length := by rw [I.len]; exact (List.getElem?_eq_some_iff.mp hj).1
      rw [List.getElem?_set_self hl] at e2
      cases e2
      exact ⟨u, rv, .inl ⟨k, by simp [List.lookup]⟩⟩
    · exact absurd rfl (L.own _ (PySem.mem_of_lookup k)).2
    · have nij : j ≠ i := fun z => by
        subst z
        rw [hj] at e1
        cases e1
        rw [L.par] at k
        cases k
      rw [List.getElem?_set_ne nij] at e2
      obtain ⟨m, hn, hl⟩ := I.loc
      have vis : Vis X.env.scope y := (L.free _ (PySem.mem_of_lookup k) rfl).elim (fun k => .inr (.inl k)) (fun k => .inr (.inr k))
      obtain ⟨w', r, q⟩ := hl i y v' e1 e2 vis
      obtain ⟨c2, h2⟩ := look k
      refine ⟨w', r, .inr ⟨.inr k, c2, h2, ?_⟩⟩
      have c1 := cm h2
      rcases q with ⟨k', _⟩ | ⟨_, c3, e', z⟩
      · have k' : X.env.scope.names.lookup y = some .local := k'
        rcases L.free _ (PySem.mem_of_lookup k) rfl with k2 | k2 <;> rw [show X.env.scope.names.lookup y = _ from k2] at k' <;> cases k'
      · rw [c1] at e'
        cases e'
        exact up z
  · obtain ⟨w', z⟩ := I.cell y c (cm e)
    exact ⟨w', up z⟩
/-- the lambda is called, from within a builtin -/
theorem lam_call {f c' : Addr} {pm ctv : Value} {params : Arguments} {body : Expr} {scope : Scope} {p : Str} {j k : Nat} {v : V} {u : Value} {Q : VK} {E : Value → Shared → Prop}
    (I : Inv X pins σ H s) (L : LamP X.env.scope scope p) (hN : X.N.Nodup) (hj : X.N[j]? = some p) (rv : RelV v u) (hr : Room (k + 2) X.A)
    (hf : s.heap.get? f = some (PySem.W.kla_obj "<lambda>" (X.env.qual ++ "<lambda>") params body scope (cloFrom X.env.cells scope.names []) pm c' ctv)) (hco : H c' = some (CodeO c' (X.env.qual ++ "<lambda>")))
    (hbind : bindArgs (PySem.W.kla_fn "<lambda>" (X.env.qual ++ "<lambda>") params body scope (cloFrom X.env.cells scope.names []) pm (.ref c') ctv) ⟨[u], []⟩ = pure [(p, u)])
    (hbody : Room k (X.A.in1.deeper (lamEnv X scope s.heap.objs.size f c')) → teOf (lamC X X.A.in1 X.stack s H scope f c') body (σ.set j (some v)) H Q) :
    wpAny (model X.prog X.w) X.A.in1 (call (.ref f) [u]) (EP X pins σ Q) E s := by
  obtain ⟨⟨oc, vs, t, hoc, hdc, hvc⟩, _, _⟩ := I.hok c' _ hco
  have e0 : Env0 X.prog X.w X.K X.mg X.base X.A.in1 X.stack s H := I.env0.in1
  have rc : codeAny (model X.prog X.w) X.A.in1 (.call (.ref f) ⟨[u], []⟩) (fun r s' => match r with | .ok (.ret z) => CE X.stack X.prog X.w H s Q z s' | _ => False) s := by
    refine PySem.W.kla_callFunE (by have := hr.dp; show X.A.depth < _; omega) hf rfl L.co L.gen rfl ⟨c', oc, vs, t, rfl, hoc, hdc, hvc⟩ ?_
    rw [hbind]
    refine wpAny_pure (wpAny_newFunctionEnv (fun y hy => (L.own y hy).2) (fun y hy => ?_) (fun g hns hsb => ⟨I.nolimit.fresh _ hsb, ?_⟩) L.kind)
    · have hy : y = (p, u) := by simpa using hy
      subst hy
      exact L.par
    show codeAny _ _ (.expr body (lamEnv X scope s.heap.objs.size f c')) _ _
    have kp : ∀ b o, s.heap.get? b = some o → g.get? b = some o := fun b o e => hsb.extBut b o (Nat.ne_of_lt (Heap.lt_size e)) (Heap.get?_push_of_some _ e)
    have hr1 : Room (k + 1) X.A.in1 := hr.in1
    have J : Inv (lamC X X.A.in1 X.stack s H scope f c') [] (σ.set j (some v)) H { s with heap := g, toks := s.toks + ([(p, u)] : List (Str × Value)).length } := lam_in I L e0 hr1.hd hN hj rv hns kp
    refine PySem.W.kla_codeExpr (wpAny_mono ((hbody (hr1.deeper _)).run [] _ J) (fun z s' hq => ?_) fun e s' hq => hq.elim)
    obtain ⟨w', H', J', rw', q⟩ := hq
    exact ⟨w', H', J'.os, J'.bare, J'.base, J'.hok, rw', q⟩
  refine wpAny_call (codeAny_mono rc fun r s' hq => ?_)
  cases r with
  | error e => exact hq.elim
  | ok fl =>
    cases fl with
    | ret z => exact I.after hq
    | next => exact hq.elim
    | brk => exact hq.elim
    | cont => exact hq.elim
end
end J
namespace J
open PySem L2 LamX
open PySem.Spec PyProof.Rows
open PySem.W (Datum)
def tabC (q : Str) : Hp → HO → Prop := fun G o => ∃ ps : Array Value, o = .tbl ps ∧ TriplesOk ps.toList ∧ ∀ (pos : Pos) (cv : Value), codeAmong pos ps.toList = some cv → ∃ c, cv = .ref c ∧ G c = some (CodeO c q)
theorem tabC_mono {q : Str} : MonoC (tabC q) := fun G G' o e ⟨ps, h1, h2, h3⟩ => ⟨ps, h1, h2, fun pos cv hc => by
  obtain ⟨c, e1, e2⟩ := h3 pos cv hc
  exact ⟨c, e1, e _ _ e2⟩⟩
def LamO (f c' : Addr) (q : Str) (params : Arguments) (body : Expr) (scope : Scope) (cl : List (Str × Addr)) : HO := .ext fun h => ∃ pm ctv, h.get? f = some (PySem.W.kla_obj "<lambda>" q params body scope cl pm c' ctv)
def LamV (q : Str) (params : Arguments) (body : Expr) (scope : Scope) (cl : List (Str × Addr)) : Hp → V → Prop := fun G u => ∃ f c', u = .ref f ∧ G f = some (LamO f c' q params body scope cl) ∧ G c' = some (CodeO c' q)
theorem lamV_mono {q : Str} {params : Arguments} {body : Expr} {scope : Scope} {cl : List (Str × Addr)} : Mono (LamV q params body scope cl) := fun G G' u e ⟨f, c', h1, h2, h3⟩ => ⟨f, c', h1, e _ _ h2, e _ _ h3⟩
theorem lamO_ok {P : Program} {w : World} {H : Hp} {h : Heap} {f c' : Addr} {q : Str} {params : Arguments} {body : Expr} {scope : Scope} {cl : List (Str × Addr)} {pm ctv : Value} (e : h.get? f = some (PySem.W.kla_obj "<lambda>" q params body scope cl pm c' ctv)) : ObjOk P w H h f (LamO f c' q params body scope cl) :=
  ⟨⟨pm, ctv, e⟩, ⟨_, e⟩, fun h1 h2 z k => by
    obtain ⟨a, b, z⟩ := z
    exact ⟨a, b, k _ z⟩⟩
section
variable {X : Cx} {B : Base} {S S1 S2 : Stt} {x y z : Slot} {a b e : Expr}
/-- lambda p: body -/
theorem je_lam {params : Arguments} {body : Expr} {scope : Scope} {p : Str} {c P : Addr} (kt : Nat) (TB : TabB X.base X.mg c P) (hcode : X.env.code = .ref c) (L : LamP X.env.scope scope p) (hk : S.cs[kt]? = some (P, .say (tabC (X.env.qual ++ "<lambda>")))) (hdef : defaultsOf params X.env = ([], []) := by rfl) {lpos : Pos} :
    JE X B S (.Lambda params body scope lpos) S (.say (LamV (X.env.qual ++ "<lambda>") params body scope (cloFrom X.env.cells scope.names []))) := fun T tv σ H Q hs qq => ⟨fun pins s I => by
  obtain ⟨G, as, bs, z⟩ := hs
  obtain ⟨o, m, hP, hc, nG, _, _, wr⟩ := z.cellW hk (by nofun)
  cases hc with
  | say mm hc =>
  obtain ⟨ps, rfl, ht, ha⟩ := hc
  refine PySem.W.kla_eval hdef ?_
  have bP : s.heap.BuiltinsAt X.mg P := TB.bm.keeps I.bk
  have hP' : s.heap.get? P = some { cls := .none, data := .fields ps } := I.hok P _ hP
  cases hcd : codeAmong lpos ps.toList with
  | some cv =>
    obtain ⟨c', rfl, hco⟩ := ha lpos cv hcd
    refine PySem.W.kla_makeFunctionHit (mg := X.mg) (c := c) (P := P) (ps := ps) (closure_ok (L.has I.ok)) I.ok.glob (I.mod.glob.keeps I.bk) hcode (TB.code.keeps I.bk) hP' ht hcd bP fun ctv h' tk hx hsz => ?_
    have nf : H h'.objs.size = none := I.hok.fresh hsz
    have I1 := I.laid (t' := tk) (a := h'.objs.size) (o := LamO h'.objs.size c' (X.env.qual ++ "<lambda>") params body scope (cloFrom X.env.cells scope.names [])) (h' := h'.push (PySem.W.kla_obj "<lambda>" (X.env.qual ++ "<lambda>") params body scope (cloFrom X.env.cells scope.names []) ((X.mg "__name__").getD .none) c' ctv))
      (fun b o e => Heap.get?_push_of_some _ (hx b o e)) hsz (lamO_ok (Heap.get?_push_size _ rfl))
    have eG : Ex G (upd G h'.objs.size (LamO h'.objs.size c' (X.env.qual ++ "<lambda>") params body scope (cloFrom X.env.cells scope.names []))) := ex_upd (Ex.refl G) (ex_none z.sub nf)
    exact ⟨.ref h'.objs.size, _, I1, rfl, qq _ _ (z.newG nf (.say lamV_mono ⟨_, c', rfl, upd_same, eG _ _ hco⟩))⟩
  | none =>
    refine PySem.W.kla_makeFunction (mg := X.mg) (c := c) (P := P) (ps := ps) (closure_ok (L.has I.ok)) I.ok.glob (I.mod.glob.keeps I.bk) hcode (TB.code.keeps I.bk) hP' ht hcd TB.gP bP fun c' ctv h' tk hx hge hlt hrec htb => ?_
    obtain ⟨c2, oc, vs, t, e2, hoc, hd, hv⟩ := hrec
    cases e2
    have hsz : s.heap.objs.size ≤ h'.objs.size := Nat.le_trans hge (Nat.le_of_lt hlt)
    have nC : H c' = none := I.hok.fresh hge
    have nP : P ≠ c' := ne_of_none hP nC
    have nF : H h'.objs.size = none := I.hok.fresh hsz
    have fc : h'.objs.size ≠ c' := Nat.ne_of_gt hlt
    have fP : h'.objs.size ≠ P := (ne_of_none hP nF).symm
    have I1 := inv_table (t' := tk) (q := X.env.qual ++ "<lambda>") (more := #[rawInt lpos.line, rawInt lpos.col, .ref c']) (h' := h') I hP hx htb hge ⟨oc, vs, t, hoc, hd, hv⟩
    have eh : upd (upd H P (.tbl (ps ++ #[rawInt lpos.line, rawInt lpos.col, .ref c']))) c' (CodeO c' (X.env.qual ++ "<lambda>")) = upd (upd H c' (CodeO c' (X.env.qual ++ "<lambda>"))) P (.tbl (ps ++ #[rawInt lpos.line, rawInt lpos.col, .ref c'])) := by
      funext b
      by_cases h1 : b = c'
      · rw [h1, upd_same, upd_ne (Ne.symm nP), upd_same]
      · rw [upd_ne h1]
        by_cases h2 : b = P
        · rw [h2, upd_same, upd_same]
        · rw [upd_ne h2, upd_ne h2, upd_ne h1]
    rw [eh] at I1
    have I2 := I1.laid (t' := tk) (a := h'.objs.size) (o := LamO h'.objs.size c' (X.env.qual ++ "<lambda>") params body scope (cloFrom X.env.cells scope.names [])) (h' := h'.push (PySem.W.kla_obj "<lambda>" (X.env.qual ++ "<lambda>") params body scope (cloFrom X.env.cells scope.names []) ((X.mg "__name__").getD .none) c' ctv))
      (fun b o e => Heap.get?_push_of_some _ e) (Nat.le_refl _) (lamO_ok (Heap.get?_push_size _ rfl))
    -- the state: the code object is known, the table has grown, the function stands
    have z1 := z.newR (o := CodeO c' (X.env.qual ++ "<lambda>")) nC
    obtain ⟨o1, m1, hP1, hc1, nG1, _, _, wr1⟩ := z1.cellW hk (by nofun)
    have eL : (ps ++ #[rawInt lpos.line, rawInt lpos.col, .ref c']).toList = ps.toList ++ [rawInt lpos.line, rawInt lpos.col, .ref c'] := by simp
    have eG : Ex G (upd G c' (CodeO c' (X.env.qual ++ "<lambda>"))) := ex_upd (Ex.refl G) (ex_none z.sub nC)
    obtain ⟨bs2, z2⟩ := wr1 (c' := .say (tabC (X.env.qual ++ "<lambda>"))) (o' := .tbl (ps ++ #[rawInt lpos.line, rawInt lpos.col, .ref c'])) (m' := []) (.say tabC_mono ⟨_, rfl, by rw [eL]; exact PySem.TriplesOk_snoc _ _ _ _ ht, fun p' cv hcv => by
      rw [eL] at hcv
      rcases among_app _ ht hcv with y | y
      · obtain ⟨c0, e1, e2⟩ := ha p' cv y
        exact ⟨c0, e1, eG _ _ e2⟩
      · exact ⟨c', y, upd_same⟩⟩ (fun _ z => nomatch z)) (by simp)
    have same : S.cs.set kt (P, .say (tabC (X.env.qual ++ "<lambda>"))) = S.cs := by
      apply List.ext_getElem?
      intro n
      by_cases hn : kt = n
      · subst hn
        rw [List.getElem?_set_self (List.getElem?_eq_some_iff.mp hk).1, hk]
      · rw [List.getElem?_set_ne hn]
    rw [same] at z2
    have z3 := z2.sta.drop
    obtain ⟨G3, as3, bs3, w3⟩ := z3
    have nF2 : upd (upd H c' (CodeO c' (X.env.qual ++ "<lambda>"))) P (.tbl (ps ++ #[rawInt lpos.line, rawInt lpos.col, .ref c'])) h'.objs.size = none := by rw [upd_ne fP, upd_ne fc]; exact nF
    refine ⟨.ref h'.objs.size, _, I2, rfl, qq _ _ ?_⟩
    obtain ⟨a1, a2, rfl, _, w2⟩ := z2.pop
    have eF : Ex (upd G c' (CodeO c' (X.env.qual ++ "<lambda>"))) (upd (upd G c' (CodeO c' (X.env.qual ++ "<lambda>"))) h'.objs.size (LamO h'.objs.size c' (X.env.qual ++ "<lambda>") params body scope (cloFrom X.env.cells scope.names []))) := ex_upd (Ex.refl _) (ex_none w2.sub nF2)
    exact w2.newG nF2 (.say lamV_mono ⟨_, c', rfl, upd_same, eF _ _ upd_same⟩)⟩
end
end J
namespace J
open PySem L2 LamX
open PySem.Spec PyProof.Rows
open PySem.W (Datum)
/-- i is the first of the greatest ones -/
def Best (kf : Nat → Int) (n i : Nat) : Prop := ∀ j, j < n → kf j ≤ kf i ∧ (j < i → kf j < kf i)
section
variable {X : Cx} {pins : List (Addr × Obj)} {σ : L2.St} {Ψ : Hp → Prop} {ws : List V} {kf : Nat → Int} {l f I S : Addr} {R : Result → Shared → Prop}
theorem two_moved {H : Hp} {s : Shared} {g : Heap} {tk : Nat} (V : Inv X pins σ H s) (fI : FpOk X pins H I) (fS : FpOk X pins H S) (k : ∀ b o, b ≠ I → b ≠ S → s.heap.get? b = some o → g.get? b = some o) : Inv X pins σ H { s with heap := g, toks := tk } :=
  V.turnedL (ch := [I, S]) (fun b o hb e => k b o (fun z => hb (by simp [z])) (fun z => hb (by simp [z])) e) fun b hb => by
    have e : b = I ∨ b = S := by simpa using hb
    rcases e with e | e <;> rw [e] <;> assumption
/-- what stands at a turn -/
structure MaxAt (X : Cx) (pins : List (Addr × Obj)) (σ : L2.St) (Ψ : Hp → Prop) (l I S : Addr) (H : Hp) (n : Nat) (data : Array Value) (s : Shared) : Prop where
  inv : Inv X pins σ H s
  psi : Ψ H
  fI : FpOk X pins H I
  fS : FpOk X pins H S
  ne : S ≠ I
  it : s.heap.IsListIter I l n
  acc : ∃ c, s.heap.get? S = some (seqObj "list" data c)
theorem MaxAt.lI {H : Hp} {n : Nat} {data : Array Value} {s : Shared} (m : MaxAt X pins σ Ψ l I S H n data s) (hl : ∀ (H : Hp) (s : Shared), Inv X pins σ H s → Ψ H → ∃ its : List Value, Vals ws its ∧ s.heap.IsList l its.toArray) : l ≠ I := fun e => by
  obtain ⟨o, h1, h2, _⟩ := m.it
  obtain ⟨its, _, o2, h3, h4, _⟩ := hl H s m.inv m.psi
  rw [e, h1] at h3
  rw [← Option.some.inj h3, h2] at h4
  exact absurd h4 (by decide)
/-- the key is asked -/
theorem MaxAt.ask {H : Hp} {n i : Nat} {data : Array Value} {s : Shared} {v : Value} {Q : Value → Shared → Prop} {E : Value → Shared → Prop} (m : MaxAt X pins σ Ψ l I S H n data s)
    (turn : ∀ (ps : List (Addr × Obj)) (H : Hp) (s : Shared), Inv X ps σ H s → Ψ H → wpAny (model X.prog X.w) X.A.in1 (call (.ref f) [v]) (EP X ps σ fun w H' => w = .int (kf i) ∧ Ψ H') (fun _ _ => False) s)
    (q : ∀ (t : Tok) (H' : Hp) (s' : Shared), MaxAt X pins σ Ψ l I S H' n data s' → Q (.int (kf i) t) s') : wpAny (model X.prog X.w) X.A.in1 (call (.ref f) [v]) Q E s := by
  obtain ⟨c, hS⟩ := m.acc
  obtain ⟨oI, hI, cI, dI⟩ := id m.it
  have V2 := m.inv.pinned (fp := [I, S]) (fun b hb => by
    have e : b = I ∨ b = S := by simpa using hb
    rcases e with e | e <;> rw [e]
    · exact m.fI
    · exact m.fS) (fun b hb => by
    have e : b = I ∨ b = S := by simpa using hb
    rcases e with e | e <;> rw [e]
    · exact ⟨oI, hI, fun v z => by rw [dI] at z; cases z⟩
    · exact ⟨_, hS, fun v z => by cases z⟩)
  refine wpAny_mono (turn _ _ _ V2 m.psi) (fun u s' hu => ?_) fun _ _ z => z.elim
  obtain ⟨w, H', V3, ru, ew, hp⟩ := hu
  subst ew
  obtain ⟨t, rfl⟩ : ∃ t, u = .int (kf i) t := ru
  have pI := V3.pin (I, oI) (List.mem_append_right _ (List.mem_append_right _ (mem_pinsAt (by simp) hI)))
  have pS := V3.pin (S, seqObj "list" data c) (List.mem_append_right _ (List.mem_append_right _ (mem_pinsAt (by simp) hS)))
  exact q t H' s' ⟨V3.unpinned, hp, ⟨pI.2.1, m.fI.2⟩, ⟨pS.2.1, m.fS.2⟩, m.ne, ⟨oI, pI.1, cI, dI⟩, ⟨c, pS.1⟩⟩
theorem MaxAt.put {H : Hp} {n : Nat} {data data2 : Array Value} {s : Shared} {Q : Unit → Shared → Prop} {E : Value → Shared → Prop} (m : MaxAt X pins σ Ψ l I S H n data s) (z1 : data.size ≤ sizeLine) (z2 : data2.size ≤ sizeLine + 1) (hQ : ∀ s', MaxAt X pins σ Ψ l I S H n data2 s' → Q () s') : wpAny (model X.prog X.w) X.A.in1 (updateSeq S (fun _ => data2)) Q E s := by
  obtain ⟨c, hS⟩ := m.acc
  have sb := Heap.SameBut.update s.heap S (Obj.mapSeq fun _ => data2)
  refine wpAny_updateSeq (hz := z1) (_hz' := z2) hS rfl (hQ _ ⟨?_, m.psi, m.fI, m.fS, m.ne, ?_, ⟨_, get?_update_seq hS fun _ => data2⟩⟩)
  · exact two_moved (tk := s.toks) m.inv m.fI m.fS fun b o _ h2 e => (sb.2 b h2).trans e
  · obtain ⟨oI, hI, cI, dI⟩ := id m.it
    exact ⟨oI, (sb.2 I m.ne.symm).trans hI, cI, dI⟩
theorem MaxAt.next {H : Hp} {n : Nat} {data : Array Value} {s : Shared} {y : V} {Q : Option Value → Shared → Prop} {E : Value → Shared → Prop} (hc : X.A.handled = none) (hl : ∀ (H : Hp) (s : Shared), Inv X pins σ H s → Ψ H → ∃ its : List Value, Vals ws its ∧ s.heap.IsList l its.toArray) (m : MaxAt X pins σ Ψ l I S H n data s) (hv : ws[n]? = some y) (hQ : ∀ v s', RelV y v → MaxAt X pins σ Ψ l I S H (n + 1) data s' → Q (some v) s') :
    wpAny (model X.prog X.w) X.A.in1 (pyNext (.ref I)) Q E s := by
  obtain ⟨its, rv, isl⟩ := hl _ _ m.inv m.psi
  have Wk := Walks.list (prog := X.prog) (w := X.w) (A := X.A.in1) hc I l (m.lI hl) its.toArray
  obtain ⟨v, e1, e2⟩ := rv.get hv
  have hlt : n < its.length := (List.getElem?_eq_some_iff.mp e1).1
  refine Wk.item n _ _ _ (by simpa using hlt) ⟨m.it, isl⟩ fun v' g tk hP st hk => ?_
  have e : v' = v := by
    have : its[n]? = some v' := by simpa using hP
    rw [e1] at this
    exact (Option.some.inj this).symm
  subst e
  obtain ⟨c, hS⟩ := m.acc
  exact hQ _ _ e2 ⟨two_moved m.inv m.fI m.fS fun b o h1 _ e => hk b o (by simpa using h1) e, m.psi, m.fI, m.fS, m.ne, st.1, ⟨c, hk S _ (by simpa using m.ne) hS⟩⟩
theorem max_turns (hc : X.A.handled = none) (hl : ∀ (H : Hp) (s : Shared), Inv X pins σ H s → Ψ H → ∃ its : List Value, Vals ws its ∧ s.heap.IsList l its.toArray)
    (turn : ∀ (i : Nat) (y : V) (v : Value), ws[i]? = some y → RelV y v → ∀ (ps : List (Addr × Obj)) (H : Hp) (s : Shared), Inv X ps σ H s → Ψ H → wpAny (model X.prog X.w) X.A.in1 (call (.ref f) [v]) (EP X ps σ fun w H' => w = .int (kf i) ∧ Ψ H') (fun _ _ => False) s)
    (hR : ∀ (i : Nat) (y : V) (v : Value) (H : Hp) (s : Shared), ws[i]? = some y → RelV y v → Best kf ws.length i → Inv X pins σ H s → Ψ H → R (.ok (.ret v)) s) :
    ∀ (r j i : Nat) (H : Hp) (s : Shared) (vb : Value) (yb : V) (tb : Tok), ws.length - (j + 1) = r → j + 1 ≤ ws.length → MaxAt X pins σ Ψ l I S H (j + 1) #[vb, .int (kf i) tb] s → ws[i]? = some yb → RelV yb vb → i ≤ j → Best kf (j + 1) i →
      codeAny (model X.prog X.w) X.A (.builtin "max.loop" ⟨[.ref I, .ref f, .ref S], []⟩) R s := by
  have nm : (toString "max" ++ toString ".loop" : String) = "max.loop" := by decide
  intro r
  induction r with
  | zero =>
    intro j i H s vb yb tb hr hj m hvb rvb hij hb
    have last : j + 1 = ws.length := by omega
    obtain ⟨c, hS⟩ := m.acc
    obtain ⟨its, rv, isl⟩ := hl _ _ m.inv m.psi
    have ll : j + 1 = its.length := by rw [last, rv.length]
    have Wk := Walks.list (prog := X.prog) (w := X.w) (A := X.A.in1) hc I l (m.lI hl) its.toArray
    refine codeAny_builtin PySem.F.entry_max_loop ?_
    rw [Around.under_plainId PySem.F.plain_max_loop _]
    show wpAny _ X.A.in1 (seqItems? (.ref S) >>= _) _ _ s
    refine wpAny_bind (wpAny_seqItems hS rfl ?_)
    show wpAny _ X.A.in1 (tryCatch (pyNext (.ref I)) _ >>= _) _ _ s
    refine wpAny_bind (wpAny_tryCatch (Wk.done _ _ _ ⟨by simpa [ll] using m.it, isl⟩ fun g tk hk => ?_))
    have hS2 := hk S _ (by simpa using m.ne) hS
    show wpAny _ X.A.in1 (updateSeq S (fun _ => #[]) >>= _) _ _ _
    refine wpAny_bind ?_
    have sb := Heap.SameBut.update g S (Obj.mapSeq fun _ => (#[] : Array Value))
    refine wpAny_updateSeq hS2 rfl (wpAny_bind (wpAny_letGo (wpAny_pure ?_)))
    exact hR i yb vb H _ hvb rvb (last ▸ hb) (two_moved (s := s) m.inv m.fI m.fS fun b o h1 h2 e => (sb.2 b h2).trans (hk b o (by simpa using h1) e)) m.psi
  | succ r ih =>
    intro j i H s vb yb tb hr hj m hvb rvb hij hb
    have hlt : j + 1 < ws.length := by omega
    obtain ⟨y, hv⟩ : ∃ y, ws[j + 1]? = some y := ⟨_, List.getElem?_eq_getElem hlt⟩
    obtain ⟨c, hS⟩ := m.acc
    refine codeAny_builtin PySem.F.entry_max_loop ?_
    rw [Around.under_plainId PySem.F.plain_max_loop _]
    show wpAny _ X.A.in1 (seqItems? (.ref S) >>= _) _ _ s
    refine wpAny_bind (wpAny_seqItems hS rfl ?_)
    show wpAny _ X.A.in1 (tryCatch (pyNext (.ref I)) _ >>= _) _ _ s
    refine wpAny_bind (wpAny_tryCatch (m.next hc hl hv fun v s1 ry m1 => ?_))
    show wpAny _ X.A.in1 (tryCatch (holding [v] (call (.ref f) [v])) _ >>= _) _ _ s1
    refine wpAny_bind (wpAny_tryCatch (wpAny_holding (m1.ask (turn (j + 1) y v hv ry) fun t H2 s2 m2 => ?_)))
    show wpAny _ X.A.in1 (tryCatch (holding [v, .int (kf (j + 1)) t] (richCompare .Gt (.int (kf (j + 1)) t) (.int (kf i) tb) >>= _)) _ >>= _) _ _ s2
    refine wpAny_bind (wpAny_tryCatch (wpAny_holding (wpAny_bind (CmpOf.ints_gt (prog := X.prog) (w := X.w) (A := X.A.in1) (P := fun i v => ∃ t, v = .int (kf i) t) kf (fun i v h => h) (j + 1) i _ _ _ _ _ ⟨t, rfl⟩ ⟨tb, rfl⟩ ?_))))
    refine wpAny_bind (wpAny_holding (wpAny_truthy_bool ?_))
    refine wpAny_bind (wpAny_letGo (wpAny_pure ?_))
    by_cases gt : kf (j + 1) > kf i
    · simp only [gt, decide_true, if_true]
      refine wpAny_bind (m2.put (by show 2 ≤ sizeLine; decide) (by show 2 ≤ sizeLine + 1; decide) fun s3 m3 => wpAny_bind (wpAny_letGo ?_))
      rw [nm]
      refine wpAny_pure ⟨plainId_quiet PySem.F.plain_max_loop _, ih (j + 1) (j + 1) H2 _ v y t (by omega) hlt m3 hv ry (Nat.le_refl _) fun j' hj' => ?_⟩
      by_cases e : j' = j + 1
      · subst e
        exact ⟨Int.le_refl _, fun z => by omega⟩
      · have h1 := (hb j' (by omega)).1
        exact ⟨by omega, fun _ => by omega⟩
    · simp only [gt, decide_false, Bool.false_eq_true, if_false]
      refine wpAny_bind (wpAny_letGo ?_)
      rw [nm]
      refine wpAny_pure ⟨plainId_quiet PySem.F.plain_max_loop _, ih (j + 1) i H2 _ vb yb tb (by omega) hlt m2 hvb rvb (by omega) fun j' hj' => ?_⟩
      by_cases e : j' = j + 1
      · subst e
        exact ⟨by omega, fun z => by omega⟩
      · exact hb j' (by omega)
theorem max_run {H : Hp} {s : Shared} {Q : Value → Shared → Prop} {E : Value → Shared → Prop} (J0 : Inv X pins σ H s) (hp : Ψ H) (hne : 0 < ws.length) (hc : X.A.handled = none) (hl : ∀ (H : Hp) (s : Shared), Inv X pins σ H s → Ψ H → ∃ its : List Value, Vals ws its ∧ s.heap.IsList l its.toArray)
    (turn : ∀ (i : Nat) (y : V) (v : Value), ws[i]? = some y → RelV y v → ∀ (ps : List (Addr × Obj)) (H : Hp) (s : Shared), Inv X ps σ H s → Ψ H → wpAny (model X.prog X.w) X.A.in1 (call (.ref f) [v]) (EP X ps σ fun w H' => w = .int (kf i) ∧ Ψ H') (fun _ _ => False) s)
    (hQ : ∀ (i : Nat) (y : V) (v : Value) (H : Hp) (s : Shared), ws[i]? = some y → RelV y v → Best kf ws.length i → Inv X pins σ H s → Ψ H → Q v s) :
    wpAny (model X.prog X.w) X.A (call (.builtin "max") [.ref l] [(Str.ofString "key", .ref f)]) Q E s := by
  have nm : (toString "max" ++ toString ".loop" : String) = "max.loop" := by decide
  obtain ⟨its, _, isl⟩ := hl _ _ J0 hp
  refine kmk_tree PySem.F.kind_max PySem.F.plain_max PySem.F.entry_max (kmk_max_key _ _) ?_
  show wpAny _ X.A.in1 (Builtin.Builtins.bindParams "max" ["key", "default"] 0 ⟨[], [(Str.ofString "key", .ref f)]⟩ >>= _) _ _ s
  refine wpAny_bind (wpAny_of_eq (show Builtin.Builtins.bindParams "max" ["key", "default"] 0 ⟨[], [(Str.ofString "key", .ref f)]⟩ = pure [some (.ref f), none] from rfl) ?_)
  refine wpAny_bind (wpAny_pure ?_)
  refine wpAny_bind (wpAny_pyIter_list isl ?_)
  refine wpAny_bind (wpAny_newList ?_ (Nat.zero_le _))
  rw [nm]
  obtain ⟨y, hv⟩ : ∃ y, ws[0]? = some y := ⟨_, List.getElem?_eq_getElem hne⟩
  have zS : (s.heap.push { cls := .type "list_iterator", data := .fields #[.ref l, .int 0 0] }).objs.size = s.heap.objs.size + 1 := size_push' ..
  have gI : ((s.heap.push { cls := .type "list_iterator", data := .fields #[.ref l, .int 0 0] }).push (seqObj "list" #[] 0)).get? s.heap.objs.size = some { cls := .type "list_iterator", data := .fields #[.ref l, .int 0 0] } := Heap.get?_push_of_some _ (Heap.get?_push_size _ rfl)
  have gS : ((s.heap.push { cls := .type "list_iterator", data := .fields #[.ref l, .int 0 0] }).push (seqObj "list" #[] 0)).get? (s.heap.push { cls := .type "list_iterator", data := .fields #[.ref l, .int 0 0] }).objs.size = some (seqObj "list" #[] 0) := Heap.get?_push_size _ rfl
  have V1 : Inv X pins σ H { s with heap := (s.heap.push { cls := .type "list_iterator", data := .fields #[.ref l, .int 0 0] }).push (seqObj "list" #[] 0) } := J0.kept (t' := s.toks) fun b o e => Heap.get?_push_of_some _ (Heap.get?_push_of_some _ e)
  have m0 : MaxAt X pins σ Ψ l s.heap.objs.size (s.heap.push { cls := .type "list_iterator", data := .fields #[.ref l, .int 0 0] }).objs.size H 0 #[] { s with heap := (s.heap.push { cls := .type "list_iterator", data := .fields #[.ref l, .int 0 0] }).push (seqObj "list" #[] 0) } :=
    ⟨V1, hp, J0.fpOk (Nat.le_refl _) (J0.hok.fresh (Nat.le_refl _)), J0.fpOk (by rw [zS]; exact Nat.le_succ _) (J0.hok.fresh (by rw [zS]; exact Nat.le_succ _)), by rw [zS]; exact Nat.ne_of_gt (Nat.lt_succ_self _), ⟨_, gI, rfl, rfl⟩, ⟨0, gS⟩⟩
  refine wpAny_pure ⟨plainId_quiet PySem.F.plain_max_loop _, ?_⟩
  refine codeAny_builtin PySem.F.entry_max_loop ?_
  rw [Around.under_plainId PySem.F.plain_max_loop _]
  show wpAny _ X.A.in1 (seqItems? (.ref _) >>= _) _ _ _
  refine wpAny_bind (wpAny_seqItems gS rfl ?_)
  show wpAny _ X.A.in1 (tryCatch (pyNext (.ref s.heap.objs.size)) _ >>= _) _ _ _
  refine wpAny_bind (wpAny_tryCatch (m0.next hc hl hv fun v s1 ry m1 => ?_))
  show wpAny _ X.A.in1 (tryCatch (holding [v] (call (.ref f) [v])) _ >>= _) _ _ s1
  refine wpAny_bind (wpAny_tryCatch (wpAny_holding (m1.ask (turn 0 y v hv ry) fun t H2 s2 m2 => ?_)))
  refine wpAny_bind (m2.put (data2 := #[v, .int (kf 0) t]) (by show 0 ≤ sizeLine; decide) (by show 2 ≤ sizeLine + 1; decide) fun s3 m3 => ?_)
  rw [nm]
  refine wpAny_pure ⟨plainId_quiet PySem.F.plain_max_loop _, max_turns hc hl turn hQ _ 0 0 H2 _ v y t rfl hne m3 hv ry (Nat.le_refl _) fun j' hj' => ?_⟩
  have e : j' = 0 := by omega
  subst e
  exact ⟨Int.le_refl _, fun z => absurd z (Nat.lt_irrefl _)⟩
end
end J
namespace J
open PySem L2 LamX
open PySem.Spec PyProof.Rows
open PySem.W (Datum)
def maxGo {α : Type} (k : α → Option Int) : α → Int → List α → Option α
  | b, _, [] => some b
  | b, kb, y :: ys => (k y).bind fun ky => if kb < ky then maxGo k y ky ys else maxGo k b kb ys
def maxBy {α : Type} (k : α → Option Int) : List α → Option α
  | [] => none
  | x :: xs => (k x).bind fun kx => maxGo k x kx xs
def keyAt {α : Type} (k : α → Option Int) (l : List α) (n : Nat) : Int := ((l[n]?).bind k).getD 0
theorem keyAt_eq {α : Type} {k : α → Option Int} {l : List α} {n : Nat} {x : α} {z : Int} (h : l[n]? = some x) (hk : k x = some z) : keyAt k l n = z := by
  unfold keyAt
  rw [h, Option.bind_some, hk]
  rfl
theorem maxGo_spec {α : Type} {k : α → Option Int} : ∀ (ys pre : List α) (b : α) (kb : Int) (i : Nat) {r : α}, maxGo k b kb ys = some r → pre[i]? = some b → k b = some kb → (∀ x ∈ pre, (k x).isSome = true) → Best (keyAt k pre) pre.length i →
    (∀ x ∈ pre ++ ys, (k x).isSome = true) ∧ ∃ i', (pre ++ ys)[i']? = some r ∧ Best (keyAt k (pre ++ ys)) (pre ++ ys).length i'
  | [], pre, b, kb, i, r, h, hi, hb, ha, hB => by
    cases h
    rw [List.append_nil]
    exact ⟨ha, i, hi, hB⟩
  | y :: ys, pre, b, kb, i, r, h, hi, hb, ha, hB => by
    obtain ⟨ky, hy, h⟩ := Option.bind_eq_some_iff.mp (show (k y).bind _ = some r from h)
    have ap : pre ++ y :: ys = (pre ++ [y]) ++ ys := by simp
    have hil : i < pre.length := (List.getElem?_eq_some_iff.mp hi).1
    have old : ∀ n, n < pre.length → keyAt k (pre ++ [y]) n = keyAt k pre n := fun n hn => by
      unfold keyAt
      rw [List.getElem?_append_left hn]
    have new : keyAt k (pre ++ [y]) pre.length = ky := keyAt_eq (by simp) hy
    have ha2 : ∀ x ∈ pre ++ [y], (k x).isSome = true := fun x hx => by
      rcases List.mem_append.mp hx with hx | hx
      · exact ha x hx
      · simp at hx
        subst hx
        rw [hy]
        rfl
    have eb : keyAt k pre i = kb := keyAt_eq hi hb
    rw [ap]
    by_cases c : kb < ky
    · rw [if_pos c] at h
      refine maxGo_spec ys (pre ++ [y]) y ky pre.length h (by simp) hy ha2 fun j hj => ?_
      rw [List.length_append, List.length_singleton] at hj
      rw [new]
      by_cases e : j = pre.length
      · subst e
        rw [new]
        exact ⟨Int.le_refl _, fun z => absurd z (Nat.lt_irrefl _)⟩
      · rw [old j (by omega)]
        have := (hB j (by omega)).1
        exact ⟨by omega, fun _ => by omega⟩
    · rw [if_neg c] at h
      refine maxGo_spec ys (pre ++ [y]) b kb i h (by rw [List.getElem?_append_left hil]; exact hi) hb ha2 fun j hj => ?_
      rw [List.length_append, List.length_singleton] at hj
      rw [old i hil, eb]
      by_cases e : j = pre.length
      · subst e
        rw [new]
        exact ⟨by omega, fun z => by omega⟩
      · rw [old j (by omega)]
        have := hB j (by omega)
        rw [eb] at this
        exact this
theorem best_uniq {kf : Nat → Int} {n i j : Nat} (hi : i < n) (hj : j < n) (a : Best kf n i) (b : Best kf n j) : i = j := by
  have h1 := a j hj
  have h2 := b i hi
  rcases Nat.lt_trichotomy i j with h | h | h
  · have := h2.2 h; omega
  · exact h
  · have := h1.2 h; omega
theorem maxBy_spec {α : Type} {k : α → Option Int} {xs : List α} {r : α} (h : maxBy k xs = some r) : (∀ i x, xs[i]? = some x → k x = some (keyAt k xs i)) ∧ (∀ i x, xs[i]? = some x → Best (keyAt k xs) xs.length i → x = r) ∧ 0 < xs.length := by
  cases xs with
  | nil => cases h
  | cons a xs =>
    obtain ⟨ka, hk, h⟩ := Option.bind_eq_some_iff.mp (show (k a).bind _ = some r from h)
    obtain ⟨h1, i', h2, h3⟩ := maxGo_spec xs [a] a ka 0 h rfl hk (fun x hx => by simp at hx; subst hx; rw [hk]; rfl) (fun j hj => by
      have : j = 0 := by simpa using hj
      subst this
      exact ⟨Int.le_refl _, fun z => absurd z (Nat.lt_irrefl _)⟩)
    refine ⟨fun i x hx => ?_, fun i x hx hb => ?_, by simp⟩
    · have hs := h1 x (List.mem_of_getElem? hx)
      obtain ⟨z, hz⟩ := Option.isSome_iff_exists.mp hs
      rw [hz, keyAt_eq hx hz]
    · have := best_uniq (List.getElem?_eq_some_iff.mp hx).1 (List.getElem?_eq_some_iff.mp h2).1 hb h3
      subst this
      have h2 : (a :: xs)[i]? = some r := h2
      rw [hx] at h2
      exact Option.some.inj h2
/-- where the keys are told, there is a greatest one -/
theorem maxBy_ok {α : Type} {k : α → Option Int} {xs : List α} (hne : xs ≠ []) (h : ∀ x ∈ xs, (k x).isSome = true) : ∃ r, maxBy k xs = some r := by
  have go : ∀ (ys : List α) (b : α) (kb : Int), (∀ x ∈ ys, (k x).isSome = true) → ∃ r, maxGo k b kb ys = some r := by
    intro ys
    induction ys with
    | nil => intro b kb _; exact ⟨b, rfl⟩
    | cons y ys ih =>
      intro b kb h
      obtain ⟨ky, hy⟩ := Option.isSome_iff_exists.mp (h y List.mem_cons_self)
      show ∃ r, ((k y).bind fun ky => if kb < ky then maxGo k y ky ys else maxGo k b kb ys) = some r
      rw [hy, Option.bind_some]
      split
      · exact ih _ _ fun x hx => h x (List.mem_cons_of_mem _ hx)
      · exact ih _ _ fun x hx => h x (List.mem_cons_of_mem _ hx)
  cases xs with
  | nil => exact absurd rfl hne
  | cons a xs =>
    obtain ⟨ka, hk⟩ := Option.isSome_iff_exists.mp (h a List.mem_cons_self)
    show ∃ r, ((k a).bind fun kx => maxGo k a kx xs) = some r
    rw [hk, Option.bind_some]
    exact go xs a ka fun x hx => h x (List.mem_cons_of_mem _ hx)
/-- what it is: a member, the key greatest, the first such -/
theorem maxBy_best {α : Type} {k : α → Option Int} {xs : List α} {r : α} (h : maxBy k xs = some r) : ∃ i, xs[i]? = some r ∧ Best (keyAt k xs) xs.length i := by
  cases xs with
  | nil => cases h
  | cons a xs =>
    obtain ⟨ka, hk, h⟩ := Option.bind_eq_some_iff.mp (show (k a).bind _ = some r from h)
    obtain ⟨_, i', h2, h3⟩ := maxGo_spec xs [a] a ka 0 h rfl hk (fun x hx => by simp at hx; subst hx; rw [hk]; rfl) (fun j hj => by
      have : j = 0 := by simpa using hj
      subst this
      exact ⟨Int.le_refl _, fun z => absurd z (Nat.lt_irrefl _)⟩)
    exact ⟨i', h2, h3⟩
theorem ssi_ints {G H : Hp} : ∀ {xs : List Int} {vs : List V}, SsI G H (xs.map Slot.val) vs [] → vs = xs.map V.int
  | [], _, h => by cases h; rfl
  | n :: ns, vs, h => by
    cases vs with
    | nil => cases h
    | cons v vs =>
      obtain ⟨h1, h2⟩ := h.cons_nil
      cases h1 with
      | val h1 =>
        cases (show Dq G v (.int n) from h1)
        rw [ssi_ints h2]
        rfl
section
variable {X : Cx} {B : Base} {S S1 S2 : Stt} {x y z : Slot} {a b e : Expr}
theorem je_maxK {xs : List Int} {k : Int → Option Int} {r : Int} {params : Arguments} {body : Expr} {scope : Scope} {p : Str} {c P : Addr} {lv : Nat} {q lpos kpos pos : Pos} (h : maxBy k xs = some r) (kt j : Nat) (TB : TabB X.base X.mg c P) (hcode : X.env.code = .ref c) (L : LamP X.env.scope scope p)
    (hm : X.mg "max" = none) (ha : JE X B S a S1 x) (lx : Lv X.K B S1 x (xs.map Slot.val)) (hk : S1.cs[kt]? = some (P, .say (tabC (X.env.qual ++ "<lambda>")))) (hr : Room lv X.A) (hl2 : 2 ≤ lv)
    (hb : ∀ (s : Shared) (H : Hp) (f c' : Addr) (y ky : Int), k y = some ky → Room (lv - 2) (lamC X X.A.in1 X.stack s H scope f c').A → JE (lamC X X.A.in1 X.stack s H scope f c') B ⟨S1.sl.set j (.val y), S1.cs⟩ body ⟨S1.sl.set j (.val y), S1.cs⟩ (.val ky))
    (hN : X.N.Nodup) (hj : X.N[j]? = some p := by rfl) (hjs : S1.sl[j]? = some .any := by rfl) (hc : X.calm = true := by rfl) (hdef : defaultsOf params X.env = ([], []) := by rfl)
    (hbind : ∀ (q : Str) (cl : List (Str × Addr)) (pm cv ctv u : Value), bindArgs (PySem.W.kla_fn "<lambda>" q params body scope cl pm cv ctv) ⟨[u], []⟩ = pure [(p, u)] := by intro _ _ _ _ _ _; rfl)
    (hg : Gl X "max" := by rfl) (he : backTo pos (starEach [a] X.env) = (false, eval a X.env) :: backTo pos (starEach [] X.env) := by rfl) (hpl : (backTo pos (starEach [a] X.env)).any (·.1) = false := by rfl)
    (hall : (backToKw pos (keywordEach [⟨some "key", .Lambda params body scope lpos, kpos⟩] X.env)).all (·.1.isSome) = true := by rfl) (hnone : (backToKw pos (keywordEach [⟨some "key", .Lambda params body scope lpos, kpos⟩] X.env)).any (·.1.isNone) = false := by rfl)
    (hks : (backToKw pos (keywordEach [⟨some "key", .Lambda params body scope lpos, kpos⟩] X.env)).filterMap (·.1) = [Str.ofString "key"] := by rfl) (hst : starEach [a] X.env = (false, eval a X.env) :: starEach [] X.env := by rfl) :
    JE X B S (.Call (.Name "max" q) [a] [⟨some "key", .Lambda params body scope lpos, kpos⟩] pos) S1 (.val r) := fun T tv σ H Q hs qq => ⟨fun pins s I => by
  obtain ⟨hkey, hbest, hne⟩ := maxBy_spec h
  refine wpAny_Call_Name_kw (ld_blt I hg hm PyProof.Rows.boot_max ?_ (by decide) (by decide))
  refine PyProof.Rows.callWith_kw (thn ((pa_cons pe0 pa_nil hst).run pos pins s σ H (fun vs H1 => ∃ va, vs = [va] ∧ Sta B S1 (x :: T) σ (va :: tv) H1) I (ha _ _ _ _ _ hs fun v H1 h1 => ⟨v, rfl, h1⟩)) fun us s1 hh => ?_) he hpl hall hnone
  obtain ⟨vs, H1, I1, r1, va, rfl, h1⟩ := hh
  refine thn ((pk_cons (X := X) (nm := some "key") (kpos := kpos) (e := .Lambda params body scope lpos) pe0 pk_nil).run pos pins s1 σ H1 (fun vs H2 => ∃ vf, vs = [vf] ∧ Sta B S1 (.say (LamV (X.env.qual ++ "<lambda>") params body scope (cloFrom X.env.cells scope.names [])) :: x :: T) σ (vf :: va :: tv) H2) I1
    (je_lam kt TB hcode L hk hdef _ _ _ _ _ h1 fun v H2 h2 => ⟨v, rfl, h2⟩)) fun ws s2 hh => ?_
  obtain ⟨vs2, H2, I2, r2, vf, rfl, h2⟩ := hh
  rw [hks]
  obtain ⟨u, rfl, ru⟩ := vals1 r1
  obtain ⟨w, rfl, rw2⟩ := vals1 r2
  obtain ⟨G2, as2, bs2, z2⟩ := id h2
  obtain ⟨a1, a2, rfl, g1, z3⟩ := z2.pop
  cases g1 with
  | say mm g1 =>
  obtain ⟨f, c', rfl, _, _⟩ := g1
  obtain ⟨l, lvs, rfl, _, _⟩ := lx z3
  obtain rfl : u = Value.ref l := ru
  obtain rfl : w = Value.ref f := rw2
  have lists : ∀ {H : Hp}, Sta B S1 (.say (LamV (X.env.qual ++ "<lambda>") params body scope (cloFrom X.env.cells scope.names [])) :: x :: T) σ (.ref f :: .ref l :: tv) H → SqL X.K H l (xs.map V.int) := fun h => by
    obtain ⟨G, as, bs, z⟩ := h.drop
    obtain ⟨l', vs, e, hq, hss⟩ := lx z
    cases e
    rw [ssi_ints hss] at hq
    exact hq
  have units : Room (lv - 2 + 2) X.A := hr.mono (by omega)
  refine max_run (Ψ := fun H => Sta B S1 (.say (LamV (X.env.qual ++ "<lambda>") params body scope (cloFrom X.env.cells scope.names [])) :: x :: T) σ (.ref f :: .ref l :: tv) H) (ws := xs.map V.int) (kf := keyAt k xs) I2 h2 (by simpa using hne) (I2.ok.hd hc) (fun H s V hp => ?_) (fun i y v hv rv ps H s V hp => ?_) fun i y v H s hv rv hB V hp => ?_
  · obtain ⟨its, rv, pl, _⟩ := V.list (lists hp)
    exact ⟨its, rv, pl.isList⟩
  · obtain ⟨n, hn, rfl⟩ : ∃ n, xs[i]? = some n ∧ L2.V.int n = y := by
      rw [List.getElem?_map] at hv
      exact Option.map_eq_some_iff.mp hv
    obtain ⟨G, as, bs, z⟩ := id hp
    obtain ⟨b1, b2, rfl, g2, z4⟩ := z.pop
    cases g2 with
    | say mm2 g2 =>
    obtain ⟨f2, c2, e, hf, hco⟩ := g2
    cases e
    have of : ObjOk X.prog X.w H s.heap f (.ext fun h => ∃ pm ctv, h.get? f = some (PySem.W.kla_obj "<lambda>" (X.env.qual ++ "<lambda>") params body scope (cloFrom X.env.cells scope.names []) pm c2 ctv)) := V.hok f _ (z.sub _ _ hf)
    obtain ⟨⟨pm, ctv, hobj⟩, _⟩ := of
    refine lam_call (Q := fun w H' => w = .int (keyAt k xs i) ∧ Sta B S1 (.say (LamV (X.env.qual ++ "<lambda>") params body scope (cloFrom X.env.cells scope.names [])) :: x :: T) σ (.ref f :: .ref l :: tv) H') V L hN hj rv units hobj (z.sub _ _ hco) (hbind _ _ _ _ _ _) fun hr2 => ?_
    have start : Sta B ⟨S1.sl.set j (.val n), S1.cs⟩ (.say (LamV (X.env.qual ++ "<lambda>") params body scope (cloFrom X.env.cells scope.names [])) :: x :: T) (σ.set j (some (.int n))) (.ref f :: .ref l :: tv) H := (hp.push (x := .val n) (v := .int n) fun _ _ => .val (.int n)).set rfl j
    refine hb s H f c2 n _ (hkey i n hn) hr2 _ _ _ _ _ start fun w H' h' => ?_
    have ew := h'.int
    refine ⟨ew, ?_⟩
    obtain ⟨G5, as5, bs5, z5⟩ := h'.drop
    obtain ⟨G0, as0, bs0, z0⟩ := id hp
    refine ⟨G5, as5, bs5, z5.tmp, z5.cel, ⟨z0.slo.1, fun i' s' hi' => ?_⟩, z5.nod, z5.fre, z5.gro, z5.new, z5.sub, z5.frm⟩
    by_cases e : j = i'
    · subst e
      rw [hjs] at hi'
      cases hi'
      obtain ⟨o, h1, _⟩ := z0.slo.2 j _ hjs
      exact ⟨o, h1, True.intro⟩
    · obtain ⟨o, h1, h2⟩ := z5.slo.2 i' s' (by show (S1.sl.set j _)[i']? = _; rw [List.getElem?_set_ne e]; exact hi')
      rw [List.getElem?_set_ne e] at h1
      exact ⟨o, h1, h2⟩
  · obtain ⟨n, hn, rfl⟩ : ∃ n, xs[i]? = some n ∧ L2.V.int n = y := by
      rw [List.getElem?_map] at hv
      exact Option.map_eq_some_iff.mp hv
    have er := hbest i n hn (by rw [List.length_map] at hB; exact hB)
    subst er
    exact ⟨.int n, H, V, rv, qq _ _ (hp.drop.drop.push fun _ _ => .val (.int n))⟩⟩
end
end J
namespace J
open PySem L2 LamX
open PySem.Spec PyProof.Rows
open PySem.W (Datum)
theorem fn_okC {γ : Type} (f : FS γ) {P : Program} {w : World} {K : PySem.W.Frag} {mg : Str → Option Value} {base : Heap} {x qual : Str} {params : Arguments} {bd : List Stmt} {scope : Scope} {dvs : List V} {kwd : List (Str × V)} {fa : Addr} {fd : FuncData} {N ps : List Str} {lv : Nat} (F : FunD K x qual params bd scope dvs kwd fa fd) (sc : FnScope N ps scope) (hn : ∀ g, (f.args g).length = ps.length) (hp : ∀ g, ∀ s ∈ f.args g, s.plain = true)
    (body : ∀ (cdv : Value), fd.code = cdv → ∀ (A : Around) (outer : List Env) (s : Shared) (H : Hp) (E : XK), Room lv (fctx P w K mg base N qual scope fa cdv A outer s H E).A → ∀ (B : Base) (g : γ), f.pre g → f.preG g B.G →
      JS (fctx P w K mg base N qual scope fa cdv A outer s H E) B ⟨f.args g ++ List.replicate (N.length - (f.args g).length) .any, f.cells g⟩ bd (fend B f g)) : FnOk P w K mg base CX0 (lv + 1) fa fd ps f.sp := by
  obtain ⟨oc, od, dV, kV, doc, pm, an, cdv, ct, osl, rfl, lk, hcd, _, _⟩ := F.ex
  refine fn_of lk hcd sc (fun vs H Q E h => ?_) fun A outer s H vs Q E hr h => ?_
  · obtain ⟨g, B, _, _, hs, _⟩ := h
    obtain ⟨G, as, bs, z⟩ := hs
    rw [← hn g, z.tmp.len]
  · obtain ⟨g, B, hpre, hpg, hs, q⟩ := h
    refine ⟨tbOf (fctx P w K mg base N qual scope fa cdv A outer s H E) bd, PSs.nox pb0, ?_⟩
    exact tb_mono (body cdv rfl A outer s H E hr B g hpre hpg [] [] _ H (hs.enter (hp g))) (fun σ H h => q _ _ h) (fun v H h => q _ _ h) (fun _ _ h => h.elim) (fun _ _ h => h.elim)
theorem code_eq {K : PySem.W.Frag} {x qual : Str} {params : Arguments} {bd : List Stmt} {scope : Scope} {dvs : List V} {kwd : List (Str × V)} {p : He.Defn} {fd : FuncData} (F : FunD K x qual params bd scope dvs kwd (He.fAd K p) fd) : fd.code = .ref (He.cT K p).1 := by
  obtain ⟨oc, od, dV, kV, doc, pm, an, cdv, ct, osl, rfl, lk, hcd, _, _⟩ := F.ex
  obtain ⟨c, rfl⟩ := He.codeIn_ref hcd
  show Value.ref c = .ref (He.codeOf K p)
  rw [He.codeOf_eq (c := c) lk rfl]
theorem sqL_del {K : PySem.W.Frag} {H : Hp} {a P : Addr} {xs : List V} (h : SqL K H a xs) (hP : H P = some (.tbl #[])) : SqL K (L2.del H P) a xs := by
  have ne : ∀ {b : Addr} {u : HO}, H b = some u → (∀ ps, u ≠ .tbl ps) → L2.del H P b = some u := fun {b u} e n => by
    rw [L2.del_ne fun z => by
      rw [z, hP] at e
      exact n _ (Option.some.inj e).symm]
    exact e
  rcases h with (h | ⟨o, h⟩) | h
  · exact .inl (.inl (ne h (by nofun)))
  · exact .inl (.inr ⟨o, ne h (by nofun)⟩)
  · exact .inr h
/-- the law's entry, one table being handed -/
theorem sta0T {H : Hp} {P a : Addr} {q : Str} (hP : H P = some (.tbl #[])) : Sta ⟨L2.del H P, L2.del H P⟩ ⟨[], [(P, .say (tabC q))]⟩ [.v (.ref a)] [] [.ref a] H := by
  have up : Ex (L2.del H P) H := fun b u e => by
    by_cases h : b = P
    · rw [h, L2.del_same] at e
      cases e
    · rw [L2.del_ne h] at e
      exact e
  refine ⟨L2.del H P, [], [P], .cons .v .nil, .cons hP (.say tabC_mono ⟨#[], rfl, True.intro, fun pos cv hc => ?_⟩ (fun _ z => nomatch z)) .nil, ⟨rfl, fun i s hs => by simp at hs⟩, by simp, fun b hb => ?_, Ex.refl _, fun b o e => .inl e, up, up⟩
  · have z : codeAmong pos [] = some cv := hc
    simp [codeAmong] at z
  · have e : b = P := by simpa using hb
    subst e
    exact ⟨L2.del_same, L2.del_same⟩
end J
namespace J
open PySem L2
open PySem.Spec PyProof.Rows
open PySem.W (Datum)
def sortI (xs : List Int) : List Int := xs.mergeSort fun a b => decide (a ≤ b)
theorem sortI_eq {xs ys : List Int} (hp : ys.Perm xs) (hs : ys.Pairwise (· ≤ ·)) : ys = sortI xs :=
  List.Perm.eq_of_pairwise (le := fun a b => (fun a b : Int => decide (a ≤ b)) a b = true) (fun a b _ _ h1 h2 => by
    have h1 := of_decide_eq_true h1
    have h2 := of_decide_eq_true h2
    omega) (hs.imp fun h => decide_eq_true h) (List.pairwise_mergeSort (fun a b c h1 h2 => by
    have h1 := of_decide_eq_true h1
    have h2 := of_decide_eq_true h2
    exact decide_eq_true (by omega)) (fun a b => by
    rw [Bool.or_eq_true, decide_eq_true_eq, decide_eq_true_eq]
    omega) xs) (hp.trans (List.mergeSort_perm xs _).symm)
theorem sortI_perm (xs : List Int) : (sortI xs).Perm xs := List.mergeSort_perm xs _
theorem sortI_srt (xs : List Int) : (sortI xs).Pairwise (· ≤ ·) := by
  have h := List.pairwise_mergeSort (le := fun a b : Int => decide (a ≤ b)) (fun a b c h1 h2 => by
    have h1 := of_decide_eq_true h1
    have h2 := of_decide_eq_true h2
    exact decide_eq_true (by omega)) (fun a b => by
    rw [Bool.or_eq_true, decide_eq_true_eq, decide_eq_true_eq]
    omega) xs
  exact h.imp fun h => of_decide_eq_true h
end J
namespace J
end J
namespace J
open PySem L2
open PySem.W (Datum)
end J
namespace J
open PySem L2
open PySem.Spec PyProof.Rows
open PySem.W (Datum)
end J
namespace J
open PySem L2
open PySem.W (Datum)
structure H2 (α β : Type) where
  a : α
  b : β
deriving DecidableEq
section
variable {α β : Type} [DecidableEq α] [Datum α] [DecidableEq β] [Datum β]
instance : Datum (H2 α β) where
  toD p := .list [Datum.toD p.a, Datum.toD p.b]
  plain p := by simp only [PyData.plain, PyData.plainAll, Datum.plain, Bool.and_self]
  eqv p q := by
    simp only [PyData.eqv, PyData.eqvAll]
    rw [Datum.eqv, Datum.eqv, Bool.and_true, ← Bool.decide_and]
    refine decide_eq_decide.mpr ⟨fun e => ?_, fun e => by rw [e]; exact ⟨rfl, rfl⟩⟩
    cases p
    cases q
    cases e.1
    cases e.2
    rfl
  depth := max (Datum.depth α) (Datum.depth β) + 1
  depth_le p := by
    simp only [PyData.depth, PyData.depthAll]
    exact Nat.succ_le_succ (Nat.max_le.mpr ⟨Nat.le_trans (Datum.depth_le p.a) (Nat.le_max_left _ _), Nat.max_le.mpr ⟨Nat.le_trans (Datum.depth_le p.b) (Nat.le_max_right _ _), Nat.zero_le _⟩⟩)
variable {B : Base} {S : Stt}
end
end J
namespace J
open PySem L2
open PySem.Spec PyProof.Rows
open PySem.W (Datum)
end J
namespace J
universe u w
open PySem L2
open PySem.W (Datum DatumOrd Holds HoldAll T3 T4)
end J
namespace J
open PySem L2
open PySem.W (Datum)
end J
namespace J
open PySem PySem.Spec PyProof.Rows L2
open PySem.W (Datum)
end J
namespace J
open PySem L2
end J
namespace J
open PySem PySem.Spec PyProof.Rows L2
open PySem.W (Datum)
end J
namespace J
open PySem PySem.Spec PyProof.Rows L2
open PySem.W (Datum)
end J
namespace J
open PySem PySem.Spec PyProof.Rows L2
open PySem.W (Datum)
def AlC (c : Cel) : Prop := ∀ (G G' H : Hp) (o : HO) (as : List Addr), CeI G H c o as → CeI G' H c o as
inductive Alc : List (Addr × Cel) → Prop where
  | nil : Alc []
  | cons {p : Addr} {c : Cel} {cs : List (Addr × Cel)} : AlC c → Alc cs → Alc ((p, c) :: cs)
theorem Alc.cs : ∀ {cs : List (Addr × Cel)}, Alc cs → ∀ {G G' H : Hp} {bs : List Addr}, CsI G H cs bs → CsI G' H cs bs
  | _, .nil, _, _, _, _, .nil => .nil
  | _, .cons h hs, _, _, _, _, .cons hp hc h2 => .cons hp (h _ _ _ _ _ hc) (hs.cs h2)
  | _, .cons h hs, _, _, _, _, .gone h2 => .gone (hs.cs h2)
theorem dq_ints {G G' H : Hp} : ∀ {ns : List Int} {vs : List V}, DqAll G vs (ns.map PyData.int) → SsI G' H (ns.map Slot.val) vs []
  | [], _, .nil => .nil
  | n :: ns, _, .cons (v := v) h1 h2 => by
    cases h1
    exact .cons (as := []) (.val (.int n)) (dq_ints h2)
end J
namespace J
open PySem PySem.Spec PyProof.Rows L2
open PySem.W (Datum DatumOrd)
abbrev P2 := Int × Int
def kT (q : P2) : List Key := [Sum.inl q.1, Sum.inl q.2]
theorem kT_inj {a b : P2} (h : kT a = kT b) : a = b := by
  have h1 := Sum.inl.inj (List.cons.inj h).1
  have h2 := Sum.inl.inj (List.cons.inj (List.cons.inj h).2).1
  exact Prod.ext h1 h2
def tget {β : Type} (m : List (P2 × β)) (k : P2) : Option β := (m.find? fun q => decide (q.1 = k)).map (·.2)
def thas {β : Type} (m : List (P2 × β)) (k : P2) : Bool := (tget m k).isSome
def tput {β : Type} (m : List (P2 × β)) (k : P2) (v : β) : List (P2 × β) := if (m.any fun q => decide (q.1 = k)) = true then m.map (fun q => if q.1 = k then (q.1, v) else q) else m ++ [(k, v)]
def tputG {β : Type} (m : List (P2 × β)) (k : P2) (v : β) : Option (List (P2 × β)) := if m.length < 16777216 then some (tput m k v) else none
section
variable {β : Type} [DecidableEq β] [Datum β] {G H : Hp}
def tks (m : List (P2 × β)) : List (List Key) := m.map fun q => kT q.1
def tss (m : List (P2 × β)) : List Slot := m.map fun q => Slot.val q.2
def dtC (m : List (P2 × β)) : Hp → HO → Prop := fun G o => ∃ gs : List (List Key × V), o = .dT gs ∧ tks m = gs.map (·.1) ∧ SsI G G (tss m) (gs.map (·.2)) []
theorem dtC_mono (m : List (P2 × β)) : MonoC (dtC m) := fun G G' o e ⟨gs, h1, h2, h3⟩ => ⟨gs, h1, h2, h3.mono e fun a h => nomatch h⟩
theorem tget_rel (k : P2) : ∀ {m : List (P2 × β)} {gs : List (List Key × V)}, tks m = gs.map (·.1) → SsI G H (tss m) (gs.map (·.2)) [] → (tget m k = none ∧ valV gs (kT k) = none) ∨ ∃ t u, tget m k = some t ∧ valV gs (kT k) = some u ∧ SlI G H (.val t) u []
  | [], [], _, _ => .inl ⟨rfl, rfl⟩
  | [], _ :: _, h, _ => by simp [tks] at h
  | _ :: _, [], h, _ => by simp [tks] at h
  | q :: m, g :: gs, h, hs => by
    have h1 : kT q.1 = g.1 := (List.cons.inj h).1
    have h2 : tks m = gs.map (·.1) := (List.cons.inj h).2
    have hs' : SsI G H (Slot.val q.2 :: tss m) (g.2 :: gs.map (·.2)) [] := hs
    generalize ha : ([] : List Addr) = as at hs'
    cases hs' with
    | cons s1 hs =>
      obtain rfl := SlI.nil s1 rfl
      rw [List.nil_append] at ha
      subst ha
      by_cases e : q.1 = k
      · have hg : g.1 = kT k := by rw [← h1, e]
        refine .inr ⟨q.2, g.2, ?_, valV_pos hg, s1⟩
        unfold tget
        rw [List.find?_cons, decide_eq_true e]
        rfl
      · have hg : ¬ g.1 = kT k := by rw [← h1]; exact fun z => e (kT_inj z)
        rw [valV_neg hg]
        have : tget (q :: m) k = tget m k := by
          unfold tget
          rw [List.find?_cons, decide_eq_false e]
        rw [this]
        exact tget_rel k h2 hs
theorem tany_rel (k : P2) : ∀ {m : List (P2 × β)} {gs : List (List Key × V)}, tks m = gs.map (·.1) → (gs.any fun kv => decide (kv.1 = kT k)) = m.any fun q => decide (q.1 = k)
  | [], [], _ => rfl
  | [], _ :: _, h => by simp [tks] at h
  | _ :: _, [], h => by simp [tks] at h
  | q :: m, g :: gs, h => by
    have h1 : kT q.1 = g.1 := (List.cons.inj h).1
    rw [List.any_cons, List.any_cons, tany_rel k (List.cons.inj h).2, ← h1]
    congr 1
    rw [decide_eq_decide]
    exact ⟨kT_inj, fun e => by rw [e]⟩
theorem tset_rel (k : P2) {v : β} {u : V} (hv : SlI G H (.val v) u []) : ∀ {m : List (P2 × β)} {gs : List (List Key × V)}, tks m = gs.map (·.1) → SsI G H (tss m) (gs.map (·.2)) [] → tks (m.map fun q => if q.1 = k then (q.1, v) else q) = (gs.map fun g => if g.1 = kT k then (g.1, u) else g).map (·.1) ∧ SsI G H (tss (m.map fun q => if q.1 = k then (q.1, v) else q)) ((gs.map fun g => if g.1 = kT k then (g.1, u) else g).map (·.2)) []
  | [], [], _, _ => ⟨rfl, .nil⟩
  | [], _ :: _, h, _ => by simp [tks] at h
  | _ :: _, [], h, _ => by simp [tks] at h
  | q :: m, g :: gs, h, hs => by
    have h1 : kT q.1 = g.1 := (List.cons.inj h).1
    have hs' : SsI G H (Slot.val q.2 :: tss m) (g.2 :: gs.map (·.2)) [] := hs
    generalize ha : ([] : List Addr) = as at hs'
    cases hs' with
    | cons s1 hs =>
      obtain rfl := SlI.nil s1 rfl
      rw [List.nil_append] at ha
      subst ha
      obtain ⟨i1, i2⟩ := tset_rel k hv (List.cons.inj h).2 hs
      simp only [List.map_cons] at i1 i2 ⊢
      by_cases e : q.1 = k
      · have hg : g.1 = kT k := by rw [← h1, e]
        rw [if_pos e, if_pos hg]
        exact ⟨congr (congrArg List.cons h1) i1, .cons (as := []) hv i2⟩
      · have hg : ¬ g.1 = kT k := by rw [← h1]; exact fun z => e (kT_inj z)
        rw [if_neg e, if_neg hg]
        exact ⟨congr (congrArg List.cons h1) i1, .cons (as := []) s1 i2⟩
theorem tput_rel (k : P2) {v : β} {u : V} (hv : SlI G H (.val v) u []) {m : List (P2 × β)} {gs : List (List Key × V)} (h : tks m = gs.map (·.1)) (hs : SsI G H (tss m) (gs.map (·.2)) []) : tks (tput m k v) = (putK gs (kT k) u).map (·.1) ∧ SsI G H (tss (tput m k v)) ((putK gs (kT k) u).map (·.2)) [] := by
  unfold tput putK
  rw [tany_rel k h]
  by_cases c : (m.any fun q => decide (q.1 = k)) = true
  · rw [if_pos c, if_pos c]
    exact tset_rel k hv h hs
  · rw [if_neg c, if_neg c]
    refine ⟨by unfold tks at h ⊢; rw [List.map_append, List.map_append, h]; rfl, ?_⟩
    show SsI G H (List.map _ (m ++ [(k, v)])) _ _
    rw [List.map_append, List.map_append]
    exact SsI.app hs (.cons (as := []) hv .nil)
theorem dq_pairA {G : Hp} {v : V} {t : P2} (h : Dq G v (Datum.toD t)) : ∃ l, v = .ref l ∧ G l = some (.tup ((kT t).map kV)) := by
  obtain ⟨l, e, hl⟩ := dq_pr (Ex.refl G) h
  exact ⟨l, e, hl⟩
end
section
variable {X : Cx} {B : Base} {S S1 S2 S3 : Stt} {x y z : Slot} {a b e o : Expr} {es : List Expr} {pos apos cpos : Pos} {D : FE} {rest : List Stmt} {kk : Nat} {p : Addr} {β : Type} [DecidableEq β] [Datum β] {m : List (P2 × β)} {key : P2}
theorem Sta.pairA {T : List Slot} {σ : L2.St} {tv : List V} {H : Hp} {v : V} {t : P2} (h : Sta B S (.val t :: T) σ (v :: tv) H) : ∃ l, v = .ref l ∧ H l = some (.tup ((kT t).map kV)) := by
  obtain ⟨G, as, bs, z⟩ := h
  obtain ⟨a1, a2, rfl, g1, z1⟩ := z.pop
  obtain ⟨l, rfl, hl⟩ := dq_pairA (sl_dq g1)
  exact ⟨l, rfl, z1.sub _ _ hl⟩
theorem Sta.dgetT {T : List Slot} {σ : L2.St} {tv : List V} {H : Hp} {l : Addr} (h : Sta B S T σ tv H) (k : Nat) (hk : S.cs[k]? = some (p, .say (dtC m))) (hb : H l = some (.tup ((kT key).map kV))) : ∃ o : Option V, DGet H p (.ref l) o ∧ o.isSome = thas m key ∧ ∀ t, tget m key = some t → ∃ u, o = some u ∧ Sta B S (.val t :: T) σ (u :: tv) H := by
  obtain ⟨G, as, bs, z⟩ := h
  obtain ⟨oo, mm, hpp, hc, _, _, _, _⟩ := z.cellW hk (by intro e; cases e)
  cases hc with
  | say _ hc =>
    obtain ⟨gs, rfl, hks, hss⟩ := hc
    refine ⟨valV gs (kT key), DGet.t (k := kT key) hpp hb, ?_, fun t ht => ?_⟩
    · rcases tget_rel key hks hss with ⟨e1, e2⟩ | ⟨t, u, e1, e2, _⟩
      · unfold thas; rw [e1, e2]; rfl
      · unfold thas; rw [e1, e2]; rfl
    · rcases tget_rel key hks hss with ⟨e1, e2⟩ | ⟨t', u, e1, e2, su⟩
      · rw [e1] at ht; cases ht
      · rw [e1] at ht
        cases ht
        exact ⟨u, e2, z.push (su.mono (Ex.refl G) fun a h => nomatch h)⟩
theorem je_dispT0 : JE X B S (.Dict [] [] pos) S (.own (.say (dtC ([] : List (P2 × β))))) := fun T tv σ H Q hs q =>
  pe1 pe_dnewT (fun p hp => by
    obtain ⟨G, as, bs, z⟩ := hs
    exact q _ _ (z.newO hp (.say (dtC_mono _) ⟨[], rfl, rfl, .nil⟩ fun _ z => nomatch z)))
theorem je_dgetT (k : Nat) {t : β} {i : Expr} (hr : Room kk X.A) (ho : JE X B S o S1 (.v (.ref p))) (hi : JE X B S1 i S2 (.val key)) (hk : S2.cs[k]? = some (p, .say (dtC m))) (ht : tget m key = some t) (hns : NoSl i := by exact fun _ _ => rfl) : JE X B S (.Subscript o i pos) S2 (.val t) := fun T tv σ H Q h q =>
  pe1 (pe_dget (hu_of hr) pe0 pe0 hns) (ho _ _ _ _ _ h fun v1 H1 h1 => by
    have e := h1.exact
    subst e
    refine hi _ _ _ _ _ h1 fun v2 H2 h2 => ?_
    obtain ⟨l, rfl, hb⟩ := h2.pairA
    obtain ⟨o, hd, _, f⟩ := h2.drop.drop.dgetT (key := key) k hk hb
    obtain ⟨u, rfl, h3⟩ := f t ht
    exact ⟨p, u, rfl, hd, q _ _ h3⟩)
theorem js_dputT (k : Nat) {t : β} {m' : List (P2 × β)} {i : Expr} {pos' : Pos} (hr : Room kk X.A) (he : JE X B S e S1 (.val t)) (ho : JE X B S1 o S2 (.v (.ref p))) (hi : JE X B S2 i S3 (.val key)) (hk : S3.cs[k]? = some (p, .say (dtC m))) (hm : tputG m key t = some m') (kx : JS X B ⟨S3.sl, S3.cs.set k (p, .say (dtC m'))⟩ rest D)
    (hs : swapsWith e (some (.Subscript o i pos')) pos.line X.env = pure false := by rfl) : JS X B S (.Assign [.Subscript o i pos'] e pos :: rest) D :=
  js_step (ps_dput (hu_of hr) pe0 pe0 pe0 hs) fun T tv σ H h => he _ _ _ _ _ h fun v H1 h1 => ho _ _ _ _ _ h1 fun w1 H2 h2 => by
    have e := h2.exact
    subst e
    refine hi _ _ _ _ _ h2 fun w2 H3 h3 => ?_
    obtain ⟨l, rfl, hb⟩ := h3.pairA
    obtain ⟨G, as, bs, z0⟩ := h3.drop.drop
    obtain ⟨a1, a2, rfl, hs1, z⟩ := z0.pop
    obtain rfl := hs1.nil rfl
    obtain ⟨oo, mm, hpp, hc, _, hm1, _, reb⟩ := z.cellW hk (by intro e; cases e)
    cases hc with
    | say _ hc =>
      obtain ⟨gs, rfl, hks, hss⟩ := hc
      unfold tputG at hm
      split at hm
      · rename_i hlt
        cases hm
        have hlen : gs.length = m.length := by
          have := congrArg List.length hks
          unfold tks at this
          rw [List.length_map, List.length_map] at this
          exact this.symm
        have hs2 : SlI G G (.val t) v [] := .val (sl_dq hs1)
        obtain ⟨e1, e2⟩ := tput_rel key hs2 hks hss
        have hnew : CeI G (upd H3 p (.dT (putK gs (kT key) v))) (.say (dtC (tput m key t))) (.dT (putK gs (kT key) v)) [] := .say (dtC_mono _) ⟨_, rfl, e1, e2⟩ fun _ z => nomatch z
        obtain ⟨bs', z3⟩ := reb hnew (List.Sublist.refl _)
        exact ⟨p, _, rfl, DPut.t (k := kT key) hpp hb (small16 (by omega)), kx _ _ _ _ z3.sta⟩
      · cases hm
end
end J
namespace J
open PySem PySem.Spec PyProof.Rows L2
open PySem.W (Datum)
end J
namespace J
open PySem PySem.Spec PyProof.Rows L2
open PySem.W (Datum)
def rawS (d : PyData) : Slot := .say (fun G u => Dq G u d)
/-- what a slot shows -/
def Rw (x : Slot) (d : PyData) : Prop := ∀ (G H : Hp) (u : V) (as : List Addr), SlI G H x u as → Dq G u d
theorem rw_raw {d : PyData} : Rw (rawS d) d := fun _ _ _ _ h => by
  cases h with
  | say _ h => exact h
inductive RwA : List Slot → List PyData → Prop where
  | nil : RwA [] []
  | non {ss : List Slot} {ds : List PyData} (h : RwA ss ds) : RwA (.v .non :: ss) (.none :: ds)
  | val {α : Type} [DecidableEq α] [Datum α] {t : α} {ss : List Slot} {ds : List PyData} (h : RwA ss ds) : RwA (.val t :: ss) (Datum.toD t :: ds)
  | raw {d : PyData} {ss : List Slot} {ds : List PyData} (h : RwA ss ds) : RwA (rawS d :: ss) (d :: ds)
theorem RwA.dq {G G' H : Hp} : ∀ {ss : List Slot} {ds : List PyData} {vs : List V} {as : List Addr}, RwA ss ds → SsI G H ss vs as → Ex G G' → DqAll G' vs ds
  | _, _, _, _, .nil, .nil, _ => .nil
  | _, _, _, _, @RwA.val α i1 i2 t ss ds h, .cons s1 s2, e => .cons (dq_mono e (@sl_dq α i1 i2 _ _ _ _ t s1)) (h.dq s2 e)
  | _, _, _, _, .raw h, .cons s1 s2, e => .cons (dq_mono e (rw_raw _ _ _ _ s1)) (h.dq s2 e)
  | _, _, _, _, .non h, .cons s1 s2, e => by
    cases s1
    exact .cons .non (h.dq s2 e)
end J
namespace J
open PySem PySem.Spec PyProof.Rows L2
open PySem.W (Datum)
theorem RwA.app : ∀ {s1 s2 : List Slot} {d1 d2 : List PyData}, RwA s1 d1 → RwA s2 d2 → RwA (s1 ++ s2) (d1 ++ d2)
  | _, _, _, _, .nil, h => h
  | _, _, _, _, .non h1, h => .non (h1.app h)
  | _, _, _, _, @RwA.val α i1 i2 t ss ds h1, h => @RwA.val α i1 i2 t _ _ (h1.app h)
  | _, _, _, _, .raw h1, h => .raw (h1.app h)
end J
namespace J
open PySem PySem.Spec PyProof.Rows L2
open PySem.W (Datum)
end J
namespace J
universe u w
open PySem PySem.Spec PyProof.Rows L2
open PySem.W (Datum)
section
variable {X : Cx} {B : Base} {S S1 S2 S3 : Stt} {x y z : Slot} {a b e o tg : Expr} {es : List Expr} {pos apos : Pos} {D : FE} {rest : List Stmt} {T : List Slot} {σ : L2.St} {tv : List V} {H : Hp} {p : Addr} {cs : List Cel}
/-- a cell that is held as a temporary thing is laid back -/
theorem Sta.back (k : Nat) {c : Cel} {q0 : Addr} {c0 : Cel} (hk : S.cs[k]? = some (q0, c0)) (hg : c0 = .gone) (h : Sta B S (.own c :: T) σ (.ref p :: tv) H) : Sta B ⟨S.sl, S.cs.set k (p, c)⟩ T σ tv H := by
  subst hg
  obtain ⟨G, as0, bs, z⟩ := h
  obtain ⟨a1, a2, rfl, g, z'⟩ := z.pop
  cases g with
  | @own _ _ o m hp hc =>
    obtain ⟨b, cb, pb⟩ := CsI.puts (Pt.cons k hk .nil) z'.cel (CsI.cons hp hc .nil)
    have pm : (a2 ++ b).Perm ((p :: m) ++ a2 ++ bs) := by
      have e1 : (a2 ++ b).Perm (a2 ++ ((p :: (m ++ [])) ++ bs)) := List.Perm.append_left _ pb
      rw [List.append_nil] at e1
      refine e1.trans ?_
      rw [← List.append_assoc]
      exact List.Perm.append_right _ List.perm_append_comm
    exact ⟨G, a2, b, z'.tmp, cb, z.slo, pm.nodup_iff.mpr z.nod, fun a ha => z.fre a (pm.mem_iff.mp ha), z.gro, z.new, z.sub, z.frm⟩
theorem Sta.lift (k : Nat) {c : Cel} (hk : S.cs[k]? = some (p, c)) (hg : c ≠ .gone) (h : Sta B S T σ tv H) : Sta B ⟨S.sl, S.cs.set k (p, .gone)⟩ (.own c :: T) σ (.ref p :: tv) H := (h.push (x := .v (.ref p)) (v := .ref p) fun _ _ => .v).own k hk hg
theorem Sta.lower (k : Nat) {c0 c : Cel} (hk : S.cs[k]? = some (p, c0)) (h : Sta B ⟨S.sl, S.cs.set k (p, .gone)⟩ (.own c :: T) σ (.ref p :: tv) H) : Sta B ⟨S.sl, S.cs.set k (p, c)⟩ T σ tv H := by
  obtain ⟨hlt, _⟩ := List.getElem?_eq_some_iff.mp hk
  have := h.back k (S := ⟨S.sl, S.cs.set k (p, .gone)⟩) (q0 := p) (c0 := .gone) (by show (S.cs.set k (p, Cel.gone))[k]? = _; rw [List.getElem?_set, if_pos rfl, if_pos hlt]) rfl
  rw [show ((⟨S.sl, S.cs.set k (p, .gone)⟩ : Stt).cs.set k (p, c)) = S.cs.set k (p, c) from List.set_set ..] at this
  exact this
end
end J
namespace J
open PySem PySem.Spec PyProof.Rows L2
open PySem.W (Datum)
end J
namespace J
universe u w
open PySem PySem.Spec PyProof.Rows L2
open PySem.W (Datum)
section
variable {X : Cx} {B : Base} {S S1 S2 S3 : Stt} {x y z : Slot} {a b e o tg : Expr} {es : List Expr} {pos apos : Pos} {D : FE} {rest : List Stmt} {T : List Slot} {σ : L2.St} {tv : List V} {H : Hp} {p q : Addr} {c d : Cel} {v : V}
theorem get_set_ne {α : Type _} {l : List α} {i j : Nat} {x y : α} (h : i ≠ j) (e : l[j]? = some y) : (l.set i x)[j]? = some y := by rw [List.getElem?_set_ne h]; exact e
theorem Sta.foldAt (k k2 j : Nat) (hk : S.cs[k]? = some (p, c)) (hj : c.nth j = some (.v (.ref q))) (hk2 : S.cs[k2]? = some (q, d)) (hne : k ≠ k2) (hgc : c ≠ .gone) (hg : d ≠ .gone) (h : Sta B S T σ tv H) : Sta B ⟨S.sl, (S.cs.set k (p, c.sub j (.own d))).set k2 (q, .gone)⟩ T σ tv H := by
  have h1 := h.lift k hk hgc
  have h2 := h1.fold k2 j hj (S := ⟨S.sl, S.cs.set k (p, .gone)⟩) (get_set_ne hne hk2) hg
  obtain ⟨hlt, _⟩ := List.getElem?_eq_some_iff.mp hk
  have h3 := h2.back k (S := ⟨S.sl, (S.cs.set k (p, .gone)).set k2 (q, .gone)⟩) (q0 := p) (c0 := .gone) (get_set_ne (Ne.symm hne) (by rw [List.getElem?_set, if_pos rfl, if_pos hlt])) rfl
  have e : ((S.cs.set k (p, Cel.gone)).set k2 (q, Cel.gone)).set k (p, c.sub j (.own d)) = (S.cs.set k (p, c.sub j (.own d))).set k2 (q, .gone) := by
    rw [List.set_comm _ _ (Ne.symm hne), List.set_set]
  have h4 : Sta B ⟨S.sl, ((S.cs.set k (p, Cel.gone)).set k2 (q, Cel.gone)).set k (p, c.sub j (.own d))⟩ T σ tv H := h3
  rw [e] at h4
  exact h4
theorem js_fold (k k2 j n : Nat) (hk : S.cs[k]? = some (p, c)) (hj : c.nth j = some (.v (.ref q))) (hk2 : S.cs[k2]? = some (q, d)) (hne : k ≠ k2) (hg : d ≠ .gone) (kx : JS X B ⟨S.sl, ((S.cs.set k (p, c.sub j (.own d))).set k2 (q, .gone)).take n⟩ rest D) (hgc : c ≠ .gone := by nofun) : JS X B S rest D := fun T tv σ H hs =>
  kx _ _ _ _ ((hs.foldAt k k2 j hk hj hk2 hne hgc hg).take n)
theorem Le.trans {S S1 S2 : Stt} (h1 : Le B S S1) (h2 : Le B S1 S2) : Le B S S2 := fun _ _ _ _ h => h2 _ _ _ _ (h1 _ _ _ _ h)
theorem Sta.write2 (h : Sta B S (.own c :: y :: T) σ (.ref p :: v :: tv) H) : ∃ G o m a1, H p = some o ∧ CeI G H c o m ∧ SlI G H y v a1 ∧ (∀ a ∈ m, a ≠ p) ∧ (∀ a ∈ a1, a ≠ p) ∧ ∀ {c' : Cel} {o' : HO} {m' d : List Addr}, CeI G (upd H p o') c' o' m' → (m' ++ d).Perm (m ++ a1) → Sta B S (.own c' :: T) σ (.ref p :: tv) (upd H p o') := by
  obtain ⟨G, as, bs, z⟩ := h
  obtain ⟨a0, a2, rfl, g0, z1⟩ := z.pop
  obtain ⟨a1, a3, rfl, g1, z2⟩ := z1.pop
  cases g0 with
  | @own _ _ o m hp hc =>
    have nd : (p :: (m ++ a1 ++ a3 ++ bs)).Nodup := by simpa only [List.append_assoc, List.cons_append] using z.nod
    have nd1 := List.nodup_cons.mp nd
    have ne : ∀ a ∈ m ++ a1 ++ a3 ++ bs, a ≠ p := fun a ha e => nd1.1 (e ▸ ha)
    have fr : ∀ a ∈ p :: (m ++ a1 ++ a3 ++ bs), G a = none ∧ B.F a = none := fun a ha => z.fre a (by simpa only [List.append_assoc, List.cons_append] using ha)
    refine ⟨G, o, m, a1, hp, hc, g1, fun a ha => ne a (by simp [ha]), fun a ha => ne a (by simp [ha]), fun {c' o' m' d} hc' pm => ?_⟩
    have sb : ((p :: m') ++ a3 ++ bs).Sublist ((p :: (m' ++ d)) ++ a3 ++ bs) := by
      refine List.Sublist.append (List.Sublist.append ?_ (List.Sublist.refl _)) (List.Sublist.refl _)
      exact (List.sublist_append_left _ _).cons_cons p
    have pm2 : ((p :: (m' ++ d)) ++ a3 ++ bs).Perm (p :: (m ++ a1 ++ a3 ++ bs)) := by
      rw [List.cons_append, List.cons_append]
      refine List.Perm.cons p ?_
      exact List.Perm.append_right _ (List.Perm.append_right _ pm)
    have hp0 := fr p List.mem_cons_self
    exact ⟨G, (p :: m') ++ a3, bs, .cons (.own upd_same hc') (z2.tmp.mono (Ex.refl G) fun a ha => upd_ne (ne a (by simp [ha]))), z2.cel.mono (Ex.refl G) fun a ha => upd_ne (ne a (by simp [ha])), z2.slo, sb.nodup (pm2.nodup_iff.mpr nd),
      fun a ha => fr a (pm2.mem_iff.mp (sb.mem ha)), z2.gro, z2.new, fun a u ha => by rw [upd_ne (by intro e; subst e; rw [hp0.1] at ha; cases ha)]; exact z2.sub a u ha, fun a u ha => by rw [upd_ne (by intro e; subst e; rw [hp0.2] at ha; cases ha)]; exact z2.frm a u ha⟩
theorem SsI.setAt {G H : Hp} : ∀ {ss : List Slot} {vs : List V} {as : List Addr} (j : Nat) {s : Slot}, SsI G H ss vs as → ss[j]? = some s → ∃ a1 m a2, as = a1 ++ m ++ a2 ∧ ∀ {y : Slot} {v : V} {m' : List Addr}, SlI G H y v m' → SsI G H (ss.set j y) (vs.set j v) (a1 ++ m' ++ a2)
  | [], _, _, _, _, _, e => by simp at e
  | s0 :: ss, _, _, 0, s, h, e => by
    cases h with
    | @cons _ u m _ vs a2 h1 h2 => exact ⟨[], m, a2, rfl, fun h' => .cons h' h2⟩
  | s0 :: ss, _, _, j + 1, s, h, e => by
    cases h with
    | @cons _ u0 m0 _ vs a0 h1 h2 =>
      obtain ⟨a1, m, a2, rfl, reb⟩ := SsI.setAt (ss := ss) j h2 (show ss[j]? = some s from e)
      refine ⟨m0 ++ a1, m, a2, by simp only [List.append_assoc], fun {y v m'} h' => ?_⟩
      have := SsI.cons h1 (reb h')
      simpa only [List.append_assoc, List.set_cons_succ] using this
theorem perm_put {a1 m a2 ay : List Addr} : ((a1 ++ ay ++ a2) ++ m).Perm ((a1 ++ m ++ a2) ++ ay) := List.perm_iff_count.mpr fun x => by simp only [List.count_append]; omega
variable {ks : List Key} {ss : List Slot} {key : Str} {kk : Nat}
variable {fs : List (Str × Slot)} {f m : Str} {C : Addr}
theorem SsI.getP {G H : Hp} : ∀ {ss : List Slot} {vs : List V} {as : List Addr} (i : Nat) {s : Slot}, SsI G H ss vs as → ss[i]? = some s → s.plain = true → ∃ u, vs[i]? = some u ∧ SlI G H s u []
  | [], _, _, _, _, _, e, _ => by simp at e
  | s0 :: ss, _, _, 0, s, h, e, hp => by
    have e1 : s0 = s := Option.some.inj e
    subst e1
    cases h with
    | cons h1 h2 =>
      have := h1.nil hp
      subst this
      exact ⟨_, rfl, h1⟩
  | s0 :: ss, _, _, i + 1, s, h, e, hp => by
    cases h with
    | cons h1 h2 => exact SsI.getP (ss := ss) i h2 e hp
theorem je_ixC (k : Nat) {s : Slot} {i : Int} (ha : JE X B S a S1 (.v (.ref p))) (hb : JE X B S1 b S2 (.val i)) (hk : S2.cs[k]? = some (p, .lst ss)) (hi : gx ss i = some s) (hp : s.plain = true := by rfl) (hs : PlainIx b := by exact fun _ _ => rfl) : JE X B S (.Subscript a b pos) S2 s := fun T tv σ H Q h q =>
  pe1 (pe_ix ix_list pe0 pe0 hs) (ha _ _ _ _ _ h fun v H1 h1 => hb _ _ _ _ _ h1 fun u H2 h2 => by
    have e := h2.int
    subst e
    have h3 := h2.drop
    have e := h3.exact
    subst e
    obtain ⟨G, as, bs, z⟩ := h3.drop
    obtain ⟨oo, mm, hpp, hc, _⟩ := z.cellW hk (by nofun)
    cases hc with
    | @lst _ vs _ hss =>
      rw [gx_ixp] at hi
      cases hj : ixp ss.length i with
      | none => rw [hj] at hi; cases hi
      | some j =>
        rw [hj] at hi
        obtain ⟨w, hw, sw⟩ := hss.getP j hi hp
        refine ⟨p, vs, i, w, rfl, rfl, .inl (.of hpp), ?_, q w H2 (z.push sw)⟩
        rw [atI_gx, gx_ixp, ← hss.len, hj]
        exact hw)
end
end J
namespace J
open PySem PySem.Spec PyProof.Rows L2
open PySem.W (Datum)
end J
namespace J
open PySem PySem.Spec PyProof.Rows L2
open PySem.W (Datum)
end J
namespace J
open PySem PySem.Spec PyProof.Rows L2
open PySem.W (Datum)
section
variable {X : Cx} {B : Base} {S S1 S2 S3 : Stt} {x y z : Slot} {a b e o i e2 : Expr} {es : List Expr} {pos apos cpos : Pos} {D : FE} {rest : List Stmt} {kk : Nat} {p : Addr}
/-- d.get(pair, e) -/
theorem je_getT2 {β : Type} [DecidableEq β] [Datum β] {m m0 : List (P2 × β)} {key : P2} {t : β} (k : Nat) (hr : Room kk X.A) (ho : JE X B S o S1 (.v (.ref p))) (hk0 : S1.cs[k]? = some (p, .say (dtC m0))) (hi : JE X B S1 i S2 (.val key)) (he : JE X B S2 e2 S3 (.val t)) (hk : S3.cs[k]? = some (p, .say (dtC m)))
    (hbase : attributeBase o "get" X.env (eval o X.env) = eval o X.env := by rfl)
    (hfew : ((backTo cpos (starEach [i, e2] X.env)).all (fun x => !x.1) && (backToKw cpos (keywordEach [] X.env)).all (fun x => x.1.isSome) && decide (([i, e2] : List Expr).length + ([] : List Keyword).length + (if ([] : List Keyword).isEmpty then 0 else 1) < 30)) = true := by rfl)
    (hline : (apos.endLine == cpos.line) = true := by rfl) (htr : backTo cpos (starEach [i, e2] X.env) = [(false, eval i X.env), (false, eval e2 X.env)] := by rfl) : JE X B S (.Call (.Attribute o "get" apos) [i, e2] [] cpos) S3 (.val ((tget m key).getD t)) := fun T tv σ H Q h q =>
  pe1 (pe_dget2 (hu_of hr) pe0 pe0 pe0 ⟨hbase, hfew, hline, htr⟩) (ho _ _ _ _ _ h fun v1 H1 h1 => by
    have e := h1.exact
    subst e
    refine ⟨p, rfl, ?_, hi _ _ _ _ _ h1 fun v2 H2 h2 => he _ _ _ _ _ h2 fun v3 H3 h3 => ?_⟩
    · obtain ⟨G, as, bs, z⟩ := h1
      obtain ⟨oo, mm, hpp, hc, _⟩ := z.cellW hk0 (by nofun)
      cases hc with
      | say _ hc =>
        obtain ⟨gs, rfl, _, _⟩ := hc
        exact .inr ⟨gs, .inl hpp⟩
    · obtain ⟨l, rfl, hb⟩ : ∃ l, v2 = .ref l ∧ H3 l = some (.tup ((kT key).map kV)) := Sta.pairA h3.drop
      obtain ⟨ov, hd, hsm, f⟩ := h3.drop.drop.drop.dgetT (key := key) k hk hb
      refine ⟨ov, hd, ?_⟩
      cases hg : tget m key with
      | none =>
        rw [hg] at q
        have : ov = none := by
          unfold thas at hsm
          rw [hg] at hsm
          cases ov with
          | none => rfl
          | some _ => cases hsm
        subst this
        exact q _ _ (Sta.perm2 (Sta.perm2 h3).drop).drop
      | some t' =>
        rw [hg] at q
        obtain ⟨u, rfl, h4⟩ := f t' hg
        exact q _ _ h4)
end
end J
namespace J
open PySem PySem.Spec PyProof.Rows L2
open PySem.W (Datum)
end J
namespace J
end J
namespace J
open PySem PySem.Spec PyProof.Rows L2
open PySem.W (Datum)
section
variable {X : Cx} {B : Base} {S S1 S2 S3 : Stt} {x y z : Slot} {a b e o i e2 : Expr} {es : List Expr} {pos apos cpos : Pos} {D : FE} {rest : List Stmt} {kk : Nat} {p C : Addr}
theorem inV_strs (s : Str) : ∀ ss : List Str, inV (.str s) (ss.map V.str) = decide (s ∈ ss)
  | [] => rfl
  | t :: ss => by
    show (eqV (.str t) (.str s) || inV (.str s) (ss.map V.str)) = _
    rw [inV_strs s ss]
    have : eqV (.str t) (.str s) = decide (s = t) := by
      show (decide (t = s)) = _
      rw [decide_eq_decide]
      exact ⟨Eq.symm, Eq.symm⟩
    rw [this]
    simp only [List.mem_cons, Bool.decide_or]
theorem jt_notInD {t : Addr} {s : Str} {ss : List Str} (ha : JE X B S a S1 (.val s)) (hb : JE X B S1 b S2 (.v (.ref t))) (ht : ∀ H, SqT X.K H t (ss.map V.str)) (hm : behindInMarks .NotIn b = false := by rfl) : JT X B S (.Compare a [.NotIn] [b] pos) S2 (decide (s ∉ ss)) := by
  refine jt_eq (jt_notInK ha hb ht hm) ?_
  rw [inV_strs]
  simp
end
end J
namespace J
open PySem PySem.Spec PyProof.Rows L2
open PySem.W (Datum)
mutual
inductive Tl (cs : List (Addr × Cel)) : Slot → PyData → Prop where
  | val {α : Type} [DecidableEq α] [Datum α] {t : α} : Tl cs (.val t) (Datum.toD t)
  | non : Tl cs (.v .non) .none
  | own {c : Cel} {d : PyData} : TlC cs c d → Tl cs (.own c) d
  | ref (k : Nat) {p : Addr} {c : Cel} {d : PyData} : cs[k]? = some (p, c) → TlC cs c d → Tl cs (.v (.ref p)) d
inductive TlC (cs : List (Addr × Cel)) : Cel → PyData → Prop where
  | lst {ss : List Slot} {ds : List PyData} : Tls cs ss ds → TlC cs (.lst ss) (.list ds)
inductive Tls (cs : List (Addr × Cel)) : List Slot → List PyData → Prop where
  | nil : Tls cs [] []
  | cons {s : Slot} {d : PyData} {ss : List Slot} {ds : List PyData} : Tl cs s d → Tls cs ss ds → Tls cs (s :: ss) (d :: ds)
end
section
variable {cs : List (Addr × Cel)}
variable {G H : Hp}
mutual
theorem Tl.dq {bs : List Addr} (hc : CsI G H cs bs) (e : Ex G H) : ∀ {s : Slot} {d : PyData} {u : V} {as : List Addr}, Tl cs s d → SlI G H s u as → Dq H u d
  | _, _, _, _, @Tl.val _ α i1 i2 t, h => by cases h with | val h => exact dq_mono e h
  | _, _, _, _, .non, .v => .non
  | _, _, _, _, .own t, .own hp h => TlC.dq hc e t hp h
  | _, _, _, _, .ref k hk t, .v => by
    obtain ⟨l, o, m, r, _, hp, h, _⟩ := CsI.at k hc hk (by rintro rfl; cases t)
    exact TlC.dq hc e t hp h
theorem TlC.dq {bs : List Addr} (hc : CsI G H cs bs) (e : Ex G H) : ∀ {c : Cel} {d : PyData} {p : Addr} {o : HO} {as : List Addr}, TlC cs c d → H p = some o → CeI G H c o as → Dq H (.ref p) d
  | _, _, _, _, _, .lst t, hp, .lst h => .lst hp (Tls.dq hc e t h)
theorem Tls.dq {bs : List Addr} (hc : CsI G H cs bs) (e : Ex G H) : ∀ {ss : List Slot} {ds : List PyData} {us : List V} {as : List Addr}, Tls cs ss ds → SsI G H ss us as → DqAll H us ds
  | _, _, _, _, .nil, .nil => .nil
  | _, _, _, _, .cons t ts, .cons h hs => .cons (Tl.dq hc e t h) (Tls.dq hc e ts hs)
end
end
/-- data that are no places -/
inductive Scal : PyData → Prop where
  | non : Scal .none
  | bl (b : Bool) : Scal (.bool b)
  | int (i : Int) : Scal (.int i)
  | str (x : Str) : Scal (.str x)
theorem Scal.any {d : PyData} {G G' : Hp} {v : V} (s : Scal d) (h : Dq G v d) : Dq G' v d := by
  cases s with
  | non => cases h; exact .non
  | bl b => cases h; exact .bl b
  | int i => cases h; exact .int i
  | str x => cases h; exact .str x
end J
namespace J
open PySem PySem.Spec PyProof.Rows L2
open PySem.W (Datum)
end J
namespace J
open PySem PySem.Spec PyProof.Rows L2
open PySem.W (Datum)
end J
namespace J
open PySem PySem.Spec PyProof.Rows L2
open PySem.W (Datum)
section
variable {X : Cx} {B : Base} {S S1 S2 : Stt} {D : FE} {rest : List Stmt} {p : Addr} {c : Cel} {o : Expr} {pos : Pos} {y : Slot} {ss : List Slot}
/-- o[ix] = .., a list with things of our own; what is stored may be one -/
theorem jg_setA (k j : Nat) {i : Int} {ix : Expr} (ho : JE X B S o S1 (.v (.ref p))) (hi : JE X B S1 ix S2 (.val i)) (hk : S2.cs[k]? = some (p, .lst ss)) (hj : ixp ss.length i = some j)
    (ha : ∀ v, assign (.Subscript o ix pos) X.env v = (do
      let ov ← holding [v] (eval o X.env)
      let iv ← holding [v, ov] (eval ix X.env)
      standAt pos
      holding [v, ov, iv] (setItem ov iv v)
      release [v, ov, iv] []) := by intro _; rfl) : JG X B S (.Subscript o ix pos) y ⟨S2.sl, S2.cs.set k (p, .lst (ss.set j y))⟩ [] := fun T tv σ v H Q h q =>
  pg1 (pg_sub pe0 pe0 set_list ha) (ho _ _ _ _ _ h fun w H1 h1 => by
    have e := h1.exact
    subst e
    refine hi _ _ _ _ _ h1 fun w H2 h2 => ?_
    have e := h2.int
    subst e
    have h3 := (h2.drop.drop).lift k hk (by nofun)
    obtain ⟨G, oo, m, a1, hpp, hc, hy, n1, n2, wr⟩ := h3.write2
    cases hc with
    | @lst _ vs0 _ hs =>
      refine ⟨p, vs0, i, j, rfl, rfl, hpp, by rw [← hs.len]; exact hj, ?_⟩
      have hs' := hs.mono (H' := upd H2 p (.lst (vs0.set j v))) (Ex.refl G) fun a ha => upd_ne (n1 a ha)
      have hy' := hy.mono (H' := upd H2 p (.lst (vs0.set j v))) (Ex.refl G) fun a ha => upd_ne (n2 a ha)
      have hjl : j < ss.length := by
        unfold ixp at hj
        split at hj
        · split at hj
          · cases hj; omega
          · cases hj
        · split at hj
          · cases hj; omega
          · cases hj
      obtain ⟨b1, mo, b2, rfl, reb⟩ := hs'.setAt j (List.getElem?_eq_getElem hjl)
      exact q _ _ (Chg.refl _ _) ((wr (.lst (reb hy')) perm_put).lower k hk))
end
end J
namespace J
open PySem PySem.Spec PyProof.Rows L2
open PySem.W (Datum)
section
variable {X : Cx} {B : Base} {S S1 S2 S3 : Stt} {x y z : Slot} {a b e o : Expr} {es : List Expr} {pos apos cpos : Pos} {D : FE} {rest : List Stmt} {k lv : Nat} {p : Addr} {d d2 : PyData}
theorem sl_raw {G H : Hp} {v : V} {as : List Addr} (h : SlI G H (rawS d) v as) : Dq G v d ∧ as = [] := by
  cases h with
  | say _ h => exact ⟨h, rfl⟩
mutual
inductive TlR (cs : List (Addr × Cel)) : Slot → PyData → Prop where
  | val {α : Type} [DecidableEq α] [Datum α] {t : α} : TlR cs (.val t) (Datum.toD t)
  | raw {d : PyData} : TlR cs (rawS d) d
  | non : TlR cs (.v .non) .none
  | own {c : Cel} {d : PyData} : TlRC cs c d → TlR cs (.own c) d
  | ref (k : Nat) {p : Addr} {c : Cel} {d : PyData} : cs[k]? = some (p, c) → TlRC cs c d → TlR cs (.v (.ref p)) d
inductive TlRC (cs : List (Addr × Cel)) : Cel → PyData → Prop where
  | lst {ss : List Slot} {ds : List PyData} : TlRs cs ss ds → TlRC cs (.lst ss) (.list ds)
inductive TlRs (cs : List (Addr × Cel)) : List Slot → List PyData → Prop where
  | nil : TlRs cs [] []
  | cons {s : Slot} {d : PyData} {ss : List Slot} {ds : List PyData} : TlR cs s d → TlRs cs ss ds → TlRs cs (s :: ss) (d :: ds)
end
section
variable {cs : List (Addr × Cel)}
variable {G H : Hp}
mutual
theorem TlR.dq {bs : List Addr} (hc : CsI G H cs bs) (e : Ex G H) : ∀ {s : Slot} {d : PyData} {u : V} {as : List Addr}, TlR cs s d → SlI G H s u as → Dq H u d
  | _, _, _, _, @TlR.val _ α i1 i2 t, h => by cases h with | val h => exact dq_mono e h
  | _, _, _, _, .raw, h => dq_mono e (sl_raw h).1
  | _, _, _, _, .non, .v => .non
  | _, _, _, _, .own t, .own hp h => TlRC.dq hc e t hp h
  | _, _, _, _, .ref k hk t, .v => by
    obtain ⟨l, o, m, r, _, hp, h, _⟩ := CsI.at k hc hk (by rintro rfl; cases t)
    exact TlRC.dq hc e t hp h
theorem TlRC.dq {bs : List Addr} (hc : CsI G H cs bs) (e : Ex G H) : ∀ {c : Cel} {d : PyData} {p : Addr} {o : HO} {as : List Addr}, TlRC cs c d → H p = some o → CeI G H c o as → Dq H (.ref p) d
  | _, _, _, _, _, .lst t, hp, .lst h => .lst hp (TlRs.dq hc e t h)
theorem TlRs.dq {bs : List Addr} (hc : CsI G H cs bs) (e : Ex G H) : ∀ {ss : List Slot} {ds : List PyData} {us : List V} {as : List Addr}, TlRs cs ss ds → SsI G H ss us as → DqAll H us ds
  | _, _, _, _, .nil, .nil => .nil
  | _, _, _, _, .cons t ts, .cons h hs => .cons (TlR.dq hc e t h) (TlRs.dq hc e ts hs)
end
end
end
end J
namespace J
open PySem
end J
namespace J
open PySem PySem.Spec PyProof.Rows L2
open PySem.W (Datum)
theorem St0.tell {B : Base} {S : Stt} {T : List Slot} {σ : L2.St} {tv : List V} {H G : Hp} {as bs : List Addr} {q : Addr} {xs : List V} (z : St0 B S T σ tv H G as bs) (hq : H q = some (.tup xs)) : ∃ G', St0 B S T σ tv H G' as bs ∧ Ex G G' ∧ G' q = some (.tup xs) := by
  cases hg : G q with
  | some o =>
    have := z.sub _ _ hg
    rw [hq] at this
    cases this
    exact ⟨G, z, Ex.refl G, hg⟩
  | none =>
    have ne : ∀ a ∈ as ++ bs, a ≠ q := fun a ha e => by
      subst e
      have : ∃ o, H a = some o ∧ NT o := (List.mem_append.mp ha).elim (fun h => z.tmp.nt a h) fun h => z.cel.nt a h
      obtain ⟨o, e, n⟩ := this
      rw [hq] at e
      cases e
      exact n xs rfl
    have eg : Ex G (upd G q (.tup xs)) := ex_upd (Ex.refl G) hg
    refine ⟨upd G q (.tup xs), ⟨z.tmp.mono eg fun _ _ => rfl, z.cel.mono eg fun _ _ => rfl, z.slo.mono eg, z.nod, fun a ha => ?_, z.gro.trans eg, fun a o ha => ?_, fun a o ha => ?_, z.frm⟩, eg, upd_same⟩
    · rw [upd_ne (ne a ha)]
      exact z.fre a ha
    · by_cases e : a = q
      · subst e
        rw [upd_same] at ha
        exact .inr (.inr ⟨xs, (Option.some.inj ha).symm⟩)
      · rw [upd_ne e] at ha
        exact z.new a o ha
    · by_cases e : a = q
      · subst e
        rw [upd_same] at ha
        rw [hq, ha]
      · rw [upd_ne e] at ha
        exact z.sub a o ha
end J
namespace J
open PySem PySem.Spec PyProof.Rows L2
open PySem.W (Datum)
end J
namespace J
open PySem PySem.Spec PyProof.Rows L2
open PySem.W (Datum)
end J
namespace J
open PySem PySem.Spec PyProof.Rows L2
open PySem.W (Datum)
end J
namespace J
open PySem PySem.Spec PyProof.Rows L2
open PySem.W (Datum)
end J
namespace J
open PySem PySem.Spec PyProof.Rows L2
open PySem.W (Datum)
end J
namespace J
open PySem PySem.Spec PyProof.Rows L2
open PySem.W (Datum)
end J
namespace J
end J
namespace J
open PySem PySem.Spec PyProof.Rows L2
open PySem.W (Datum)
end J
namespace J
open PySem PySem.Spec PyProof.Rows L2
open PySem.W (Datum)
end J
namespace J
open PySem PySem.Spec PyProof.Rows L2
open PySem.W (Datum)
end J
namespace J
open PySem PySem.Spec PyProof.Rows L2
open PySem.W (Datum)
end J
namespace J
open PySem PySem.Spec PyProof.Rows L2 HotX
open PySem.W (Datum)
end J
namespace J
open PySem PySem.Spec PyProof.Rows L2 HotX
open PySem.W (Datum)
end J
namespace J
open PySem PySem.Spec PyProof.Rows L2
open PySem.W (Datum)
end J
namespace J
open PySem PySem.Spec PyProof.Rows L2
open PySem.W (Datum)
section
variable {X : Cx} {B : Base} {S S1 S2 : Stt} {x : Slot} {e : Expr} {es : List Expr} {pos : Pos} {D : FE} {rest : List Stmt} {p : Addr} {c : Cel}
def two {α : Type} (xs : List α) : Option (α × α) := match xs with
  | [a, b] => some (a, b)
  | _ => none
end
end J
namespace J
open PySem PySem.Spec PyProof.Rows L2
open PySem.W (Datum)
theorem SgI.put {G : Hp} {sl : List Slot} {σ : L2.St} (h : SgI G sl σ) {i : Nat} {s : Slot} {o : Option V} (ho : σ[i]? = some o) (hs : SlOk G s o) : SgI G (sl.set i s) σ := by
  refine ⟨by rw [List.length_set]; exact h.1, fun j s' hj => ?_⟩
  by_cases e : i = j
  · subst e
    have hl := (List.getElem?_eq_some_iff.mp hj).1
    rw [List.length_set] at hl
    rw [List.getElem?_set_self hl] at hj
    cases hj
    exact ⟨o, ho, hs⟩
  · rw [List.getElem?_set_ne e] at hj
    exact h.2 j s' hj
end J
namespace J
open PySem PySem.Spec PyProof.Rows L2
open PySem.W (Datum)
end J
namespace J
open PySem PySem.Spec PyProof.Rows L2
open PySem.W (Datum)
end J
namespace J
open PySem PySem.Spec PyProof.Rows L2
open PySem.W (Datum)
end J
namespace J
open PySem PySem.Spec PyProof.Rows L2
open PySem.W (Datum)
inductive Hap where
  | two (w : Str) (n : Int)
  | three (w : Str) (n p : Int)
  deriving DecidableEq
def Hap.d : Hap → PyData
  | .two w n => .tuple [.str w, .int n]
  | .three w n p => .tuple [.str w, .int n, .int p]
instance : Datum Hap where
  toD := Hap.d
  plain p := by cases p <;> simp only [Hap.d, PyData.plain, PyData.plainAll, Bool.and_self]
  eqv p q := by
    cases p <;> cases q <;> simp [Hap.d, PyData.eqv, PyData.eqvAll, Bool.and_true]
    all_goals rfl
  depth := 1
  depth_le p := by cases p <;> simp [Hap.d, PyData.depth, PyData.depthAll]
end J
namespace J
open PySem PySem.Spec PyProof.Rows L2
open PySem.W (Datum)
end J
namespace J
open PySem PySem.Spec PyProof.Rows L2
open PySem.W (Datum)
def Hap.len : Hap → Int
  | .two _ _ => 2
  | .three _ _ _ => 3
end J
namespace J
open PySem PySem.Spec PyProof.Rows L2
open PySem.W (Datum)
end J
namespace J
open PySem PySem.Spec PyProof.Rows L2
open PySem.W (Datum)
end J
namespace J
open PySem PySem.Spec PyProof.Rows L2
open PySem.W (Datum)
end J
namespace J
open PySem PySem.Spec PyProof.Rows L2
open PySem.W (Datum)
end J
namespace J
open PySem PySem.Spec PyProof.Rows L2
open PySem.W (Datum)
end J
namespace J
open PySem PySem.Spec PyProof.Rows L2
open PySem.W (Datum Tup)
section
variable {X : Cx} {B : Base} {S S1 S2 S3 : Stt} {a b : Expr} {pos : Pos}
/-- t + u, told tuples -/
theorem je_catTT {α β γ : Type} [DecidableEq α] [Datum α] [DecidableEq β] [Datum β] [DecidableEq γ] [Datum γ] {t : α} {u : β} {r : γ} {d1 d2 : List PyData} (ha : JE X B S a S1 (.val t)) (hb : JE X B S1 b S2 (.val u)) (h1 : Datum.toD t = .tuple d1) (h2 : Datum.toD u = .tuple d2) (hr : Datum.toD r = .tuple (d1 ++ d2)) (hl : d1.length + d2.length ≤ 1000) : JE X B S (.BinOp a .Add b pos) S2 (.val r) :=
  je_op op_catA ha hb fun T tv σ v u9 H Q h q => by
    obtain ⟨G, as, bs, z⟩ := h
    obtain ⟨a1, a2, rfl, g1, z1⟩ := id z.pop
    obtain ⟨a3, a4, rfl, g2, z2⟩ := id z1.pop
    have x1 := sl_dq g1
    have x2 := sl_dq g2
    rw [h1] at x2
    rw [h2] at x1
    cases x1 with
    | @tup l2 vs2 _ hH2 hd2 =>
      cases x2 with
      | @tup l1 vs1 _ hH1 hd1 =>
        refine ⟨l1, l2, vs1, vs2, rfl, rfl, .inl (.inl (z2.sub _ _ hH1)), .inl (.inl (z2.sub _ _ hH2)), small1000 (by rw [dqAll_len hd1, dqAll_len hd2]; exact hl) |> Nat.le_of_lt, fun e => ?_, fun e1 e2 => ?_, fun e1 e2 p hp => ?_⟩
        · subst e
          cases hd1
          exact q _ _ (z2.push (.val (by rw [hr, List.nil_append]; exact .tup hH2 hd2)))
        · subst e2
          cases hd2
          exact q _ _ (z2.push (.val (by rw [hr, List.append_nil]; exact .tup hH1 hd1)))
        · refine q _ _ (z2.newG hp (.val ?_))
          rw [hr]
          have app : ∀ {G : Hp} {vs us : List V} {ds es : List PyData}, DqAll G vs ds → DqAll G us es → DqAll G (vs ++ us) (ds ++ es) := fun {G vs us ds es} x y => by
            induction vs generalizing ds with
            | nil => cases x; exact y
            | cons v vs ih => cases x with
              | cons x1 x2 => exact .cons x1 (ih x2)
          exact .tup upd_same (dqAll_mono (ex_upd (Ex.refl G) (ex_none z2.sub hp)) (app hd1 hd2))
end
end J
namespace J
open PySem PySem.Spec PyProof.Rows L2
open PySem.W (Datum)
end J
namespace J
open PySem PySem.Spec PyProof.Rows L2
open PySem.W (Datum)
end J
namespace J
open PySem PySem.Spec PyProof.Rows L2
open PySem.W (Datum)
end J
namespace J
open PySem PySem.Spec PyProof.Rows L2
open PySem.W (Datum)
end J
namespace J
namespace Mn
open PySem L2 LamX
open PySem.Spec PyProof.Rows
open PySem.W (Datum)
section
variable {X : Cx} {pins : List (Addr × Obj)} {σ : L2.St} {Ψ : Hp → Prop} {ws : List V} {kf : Nat → Int} {l f I S : Addr} {R : Result → Shared → Prop}
theorem two_moved {H : Hp} {s : Shared} {g : Heap} {tk : Nat} (V : Inv X pins σ H s) (fI : FpOk X pins H I) (fS : FpOk X pins H S) (k : ∀ b o, b ≠ I → b ≠ S → s.heap.get? b = some o → g.get? b = some o) : Inv X pins σ H { s with heap := g, toks := tk } :=
  V.turnedL (ch := [I, S]) (fun b o hb e => k b o (fun z => hb (by simp [z])) (fun z => hb (by simp [z])) e) fun b hb => by
    have e : b = I ∨ b = S := by simpa using hb
    rcases e with e | e <;> rw [e] <;> assumption
/-- what stands at a turn -/
structure MinAt (X : Cx) (pins : List (Addr × Obj)) (σ : L2.St) (Ψ : Hp → Prop) (l I S : Addr) (H : Hp) (n : Nat) (data : Array Value) (s : Shared) : Prop where
  inv : Inv X pins σ H s
  psi : Ψ H
  fI : FpOk X pins H I
  fS : FpOk X pins H S
  ne : S ≠ I
  it : s.heap.IsListIter I l n
  acc : ∃ c, s.heap.get? S = some (seqObj "list" data c)
theorem MinAt.lI {H : Hp} {n : Nat} {data : Array Value} {s : Shared} (m : MinAt X pins σ Ψ l I S H n data s) (hl : ∀ (H : Hp) (s : Shared), Inv X pins σ H s → Ψ H → ∃ its : List Value, Vals ws its ∧ s.heap.IsList l its.toArray) : l ≠ I := fun e => by
  obtain ⟨o, h1, h2, _⟩ := m.it
  obtain ⟨its, _, o2, h3, h4, _⟩ := hl H s m.inv m.psi
  rw [e, h1] at h3
  rw [← Option.some.inj h3, h2] at h4
  exact absurd h4 (by decide)
/-- the key is asked -/
theorem MinAt.ask {H : Hp} {n i : Nat} {data : Array Value} {s : Shared} {v : Value} {Q : Value → Shared → Prop} {E : Value → Shared → Prop} (m : MinAt X pins σ Ψ l I S H n data s)
    (turn : ∀ (ps : List (Addr × Obj)) (H : Hp) (s : Shared), Inv X ps σ H s → Ψ H → wpAny (model X.prog X.w) X.A.in1 (call (.ref f) [v]) (EP X ps σ fun w H' => w = .int (kf i) ∧ Ψ H') (fun _ _ => False) s)
    (q : ∀ (t : Tok) (H' : Hp) (s' : Shared), MinAt X pins σ Ψ l I S H' n data s' → Q (.int (kf i) t) s') : wpAny (model X.prog X.w) X.A.in1 (call (.ref f) [v]) Q E s := by
  obtain ⟨c, hS⟩ := m.acc
  obtain ⟨oI, hI, cI, dI⟩ := id m.it
  have V2 := m.inv.pinned (fp := [I, S]) (fun b hb => by
    have e : b = I ∨ b = S := by simpa using hb
    rcases e with e | e <;> rw [e]
    · exact m.fI
    · exact m.fS) (fun b hb => by
    have e : b = I ∨ b = S := by simpa using hb
    rcases e with e | e <;> rw [e]
    · exact ⟨oI, hI, fun v z => by rw [dI] at z; cases z⟩
    · exact ⟨_, hS, fun v z => by cases z⟩)
  refine wpAny_mono (turn _ _ _ V2 m.psi) (fun u s' hu => ?_) fun _ _ z => z.elim
  obtain ⟨w, H', V3, ru, ew, hp⟩ := hu
  subst ew
  obtain ⟨t, rfl⟩ : ∃ t, u = .int (kf i) t := ru
  have pI := V3.pin (I, oI) (List.mem_append_right _ (List.mem_append_right _ (mem_pinsAt (by simp) hI)))
  have pS := V3.pin (S, seqObj "list" data c) (List.mem_append_right _ (List.mem_append_right _ (mem_pinsAt (by simp) hS)))
  exact q t H' s' ⟨V3.unpinned, hp, ⟨pI.2.1, m.fI.2⟩, ⟨pS.2.1, m.fS.2⟩, m.ne, ⟨oI, pI.1, cI, dI⟩, ⟨c, pS.1⟩⟩
theorem MinAt.put {H : Hp} {n : Nat} {data data2 : Array Value} {s : Shared} {Q : Unit → Shared → Prop} {E : Value → Shared → Prop} (m : MinAt X pins σ Ψ l I S H n data s) (z1 : data.size ≤ sizeLine) (z2 : data2.size ≤ sizeLine + 1) (hQ : ∀ s', MinAt X pins σ Ψ l I S H n data2 s' → Q () s') : wpAny (model X.prog X.w) X.A.in1 (updateSeq S (fun _ => data2)) Q E s := by
  obtain ⟨c, hS⟩ := m.acc
  have sb := Heap.SameBut.update s.heap S (Obj.mapSeq fun _ => data2)
  refine wpAny_updateSeq (hz := z1) (_hz' := z2) hS rfl (hQ _ ⟨?_, m.psi, m.fI, m.fS, m.ne, ?_, ⟨_, get?_update_seq hS fun _ => data2⟩⟩)
  · exact two_moved (tk := s.toks) m.inv m.fI m.fS fun b o _ h2 e => (sb.2 b h2).trans e
  · obtain ⟨oI, hI, cI, dI⟩ := id m.it
    exact ⟨oI, (sb.2 I m.ne.symm).trans hI, cI, dI⟩
theorem MinAt.next {H : Hp} {n : Nat} {data : Array Value} {s : Shared} {y : V} {Q : Option Value → Shared → Prop} {E : Value → Shared → Prop} (hc : X.A.handled = none) (hl : ∀ (H : Hp) (s : Shared), Inv X pins σ H s → Ψ H → ∃ its : List Value, Vals ws its ∧ s.heap.IsList l its.toArray) (m : MinAt X pins σ Ψ l I S H n data s) (hv : ws[n]? = some y) (hQ : ∀ v s', RelV y v → MinAt X pins σ Ψ l I S H (n + 1) data s' → Q (some v) s') :
    wpAny (model X.prog X.w) X.A.in1 (pyNext (.ref I)) Q E s := by
  obtain ⟨its, rv, isl⟩ := hl _ _ m.inv m.psi
  have Wk := Walks.list (prog := X.prog) (w := X.w) (A := X.A.in1) hc I l (m.lI hl) its.toArray
  obtain ⟨v, e1, e2⟩ := rv.get hv
  have hlt : n < its.length := (List.getElem?_eq_some_iff.mp e1).1
  refine Wk.item n _ _ _ (by simpa using hlt) ⟨m.it, isl⟩ fun v' g tk hP st hk => ?_
  have e : v' = v := by
    have : its[n]? = some v' := by simpa using hP
    rw [e1] at this
    exact (Option.some.inj this).symm
  subst e
  obtain ⟨c, hS⟩ := m.acc
  exact hQ _ _ e2 ⟨two_moved m.inv m.fI m.fS fun b o h1 _ e => hk b o (by simpa using h1) e, m.psi, m.fI, m.fS, m.ne, st.1, ⟨c, hk S _ (by simpa using m.ne) hS⟩⟩
end
end Mn
end J
namespace J
end J
namespace J
open PySem PySem.Spec PyProof.Rows L2
open PySem.W (Datum)
end J
namespace J
open PySem PySem.Spec PyProof.Rows L2
open PySem.W (Datum)
end J
namespace J
end J
namespace J
open PySem PySem.Spec PyProof.Rows L2
open PySem.W (Datum)
end J
namespace J
open PySem PySem.Spec PyProof.Rows L2
open PySem.W (Datum)
end J
namespace J
open PySem PySem.Spec PyProof.Rows L2
open PySem.W (Datum)
end J
namespace J
open PySem PySem.Spec PyProof.Rows L2
open PySem.W (Datum)
end J
namespace J
open PySem PySem.Spec PyProof.Rows L2
open PySem.W (Datum)
open PySem.Sem (wp)
/-- an iterator it over l, whose items are xs -/
structure Src (prog : Program) (w : World) (it l : Addr) (xs : Array Value) where
  at_ : Nat → Heap → Prop
  keep : ∀ {h h' : Heap} {k : Nat}, (∀ c o, c = it ∨ c = l → h.get? c = some o → h'.get? c = some o) → at_ k h → at_ k h'
  lt : ∀ {h : Heap} {k : Nat}, at_ k h → it < h.objs.size
  item : ∀ {A : Around} {E : Value → Shared → Prop} {s : Shared} {k : Nat} {x : Value} {Q : Value → Shared → Prop}, at_ k s.heap → xs[k]? = some x → (∀ h', at_ (k + 1) h' → Heap.SameBut it s.heap h' → Q x { s with heap := h' }) →
    wpAny (model prog w) A (Builtin.SmallTypes.nextOf (.ref it)) Q E s
  done : ∀ {A : Around} {E : Value → Shared → Prop} {s : Shared} {k : Nat} {Q : Value → Shared → Prop}, A.handled = none → at_ k s.heap → xs[k]? = none → (∀ h' e, Heap.ExtBut it s.heap h' → (∃ o, h'.get? e = some o ∧ o.cls = .type "StopIteration") → E (.ref e) { s with heap := h' }) →
    wpAny (model prog w) A (Builtin.SmallTypes.nextOf (.ref it)) Q E s
section
variable {prog : Program} {w : World} {it l : Addr} {xs : Array Value}
def Src.tup (hne : l ≠ it) : Src prog w it l xs where
  at_ k h := h.IsTupleIter it l k ∧ h.IsTuple l xs
  keep := fun q ⟨h1, o, e, h2⟩ => ⟨h1.at fun o e => q it o (.inl rfl) e, o, q l o (.inr rfl) e, h2⟩
  lt := fun ⟨⟨_, e, _⟩, _⟩ => Heap.lt_size e
  item := fun ⟨h1, h2⟩ hx hQ => RZ.nextOf_tuple_item h1 h2 hx fun h' g sb => hQ h' ⟨g, h2.extBut sb.extBut hne⟩ sb
  done := fun hh ⟨h1, h2⟩ hx hE => RZ.nextOf_tuple_end hh h1 h2 hx hE
def Src.lst (hne : l ≠ it) : Src prog w it l xs where
  at_ k h := h.IsListIter it l k ∧ h.IsList l xs
  keep := fun q ⟨h1, h2⟩ => ⟨h1.at fun o e => q it o (.inl rfl) e, h2.at fun o e => q l o (.inr rfl) e⟩
  lt := fun ⟨⟨_, e, _⟩, _⟩ => Heap.lt_size e
  item := fun ⟨h1, h2⟩ hx hQ => wpAny_nextOf_list_item h1 h2 hx fun h' g sb => hQ h' ⟨g, h2.extBut sb.extBut hne⟩ sb
  done := fun hh ⟨h1, h2⟩ hx hE => wpAny_nextOf_list_end hh h1 h2 hx hE
end
end J
namespace J
open PySem PySem.Spec PyProof.Rows L2
open PySem.W (Datum)
end J
namespace J
open PySem PySem.Spec PyProof.Rows L2
open PySem.W (Datum)
end J
namespace J
open PySem PySem.Spec PyProof.Rows L2
open PySem.W (Datum)
end J
namespace J
open PySem PySem.Spec PyProof.Rows L2
open PySem.W (Datum)
end J
namespace J
open PySem PySem.Spec PyProof.Rows L2
open PySem.W (Datum)
end J
namespace J
open PySem PySem.Spec PyProof.Rows L2
open PySem.W (Datum)
end J
namespace J
open PySem PySem.Spec PyProof.Rows L2
open PySem.W (Datum)
end J
namespace J
open PySem PySem.Spec PyProof.Rows L2
open PySem.W (Datum)
end J
namespace J
open PySem PySem.Spec PyProof.Rows L2
open PySem.W (Datum)
end J
namespace PySem
end PySem
namespace J
open PySem PySem.Spec PyProof.Rows L2
open PySem.W (Datum)
/-- what a refusal bears: none, a number, a text -/
inductive IS where
  | n
  | i (x : Int)
  | s (x : Str)
  deriving DecidableEq
def IS.d : IS → PyData
  | .n => .none
  | .i x => .int x
  | .s x => .str x
instance : Datum IS where
  toD := IS.d
  plain p := by cases p <;> rfl
  eqv p q := by
    cases p <;> cases q <;> simp [IS.d, PyData.eqv]
    all_goals exact PySem.W.beq_decide _ _
  depth := 1
  depth_le p := by cases p <;> simp [IS.d, PyData.depth]
end J
namespace J
open PySem PySem.Spec PyProof.Rows L2
open PySem.W (Datum)
end J
namespace J
open PySem PySem.Spec PyProof.Rows L2
open PySem.W (Datum)
end J
namespace J
open PySem PySem.Spec PyProof.Rows L2
open PySem.W (Datum)
/-- what a name stands for while all is told -/
inductive LS (cs : List (Addr × Cel)) : Slot → Slot → Prop where
  | any {s : Slot} : LS cs s .any
  | val {α : Type} [DecidableEq α] [Datum α] {t : α} : LS cs (.val t) (.val t)
  | put {p : Addr} {y : Slot} (h : ∀ {G H : Hp} {bs : List Addr}, CsI G H cs bs → Ex G H → SlOk H y (some (.ref p))) : LS cs (.v (.ref p)) y
inductive LSs (cs : List (Addr × Cel)) : List Slot → List Slot → Prop where
  | nil : LSs cs [] []
  | cons {s t : Slot} {ss ts : List Slot} (h : LS cs s t) (r : LSs cs ss ts) : LSs cs (s :: ss) (t :: ts)
theorem LSs.at {cs : List (Addr × Cel)} {a b : List Slot} (h : LSs cs a b) : a.length = b.length ∧ ∀ (j : Nat) (t : Slot), b[j]? = some t → ∃ s, a[j]? = some s ∧ LS cs s t := by
  induction h with
  | nil => exact ⟨rfl, fun j t h => by simp at h⟩
  | cons h r ih =>
    refine ⟨congrArg Nat.succ ih.1, fun j t hj => ?_⟩
    cases j with
    | zero => cases (show some _ = some t from hj); exact ⟨_, rfl, h⟩
    | succ j => exact ih.2 j t hj
inductive AllO (G : Hp) : List V → List (Option PyData) → Prop where
  | nil : AllO G [] []
  | sm {v : V} {d : PyData} {vs : List V} {ds : List (Option PyData)} (h : Dq G v d) (r : AllO G vs ds) : AllO G (v :: vs) (some d :: ds)
  | nn {v : V} {vs : List V} {ds : List (Option PyData)} (r : AllO G vs ds) : AllO G (v :: vs) (none :: ds)
theorem AllO.mono {G G' : Hp} (e : Ex G G') {vs : List V} {ds : List (Option PyData)} (h : AllO G vs ds) : AllO G' vs ds := by
  induction h with
  | nil => exact .nil
  | sm h _ ih => exact .sm (dq_mono e h) ih
  | nn _ ih => exact .nn ih
theorem AllO.at {G : Hp} {vs : List V} {ds : List (Option PyData)} (h : AllO G vs ds) : ∀ (j : Nat) {d : PyData}, ds[j]? = some (some d) → ∃ v, vs[j]? = some v ∧ Dq G v d := by
  induction h with
  | nil => intro j d e; simp at e
  | sm h _ ih =>
    intro j d e
    cases j with
    | zero => cases (show some (some _) = some (some d) from e); exact ⟨_, rfl, h⟩
    | succ j => exact ih j e
  | nn _ ih =>
    intro j d e
    cases j with
    | zero => cases (show some none = some (some d) from e)
    | succ j => exact ih j e
/-- a dict whose keys are ks, of the values some data -/
def RecP (ks : List Key) (ds : List (Option PyData)) : Hp → V → Prop := fun G v => ∃ (p : Addr) (gs : List (Key × V)), v = .ref p ∧ G p = some (.dK gs) ∧ ks = gs.map (·.1) ∧ AllO G (gs.map (·.2)) ds
theorem recP_mono {ks : List Key} {ds : List (Option PyData)} : Mono (RecP ks ds) := fun G G' u e ⟨p, gs, h1, h2, h3, h4⟩ => ⟨p, gs, h1, e _ _ h2, h3, h4.mono e⟩
inductive RecA (ks : List Key) (G : Hp) : List V → List (List (Option PyData)) → Prop where
  | nil : RecA ks G [] []
  | cons {v : V} {d : List (Option PyData)} {vs : List V} {ds : List (List (Option PyData))} (h : RecP ks d G v) (r : RecA ks G vs ds) : RecA ks G (v :: vs) (d :: ds)
theorem RecA.mono {ks : List Key} {G G' : Hp} (e : Ex G G') {vs : List V} {ds : List (List (Option PyData))} (h : RecA ks G vs ds) : RecA ks G' vs ds := by
  induction h with
  | nil => exact .nil
  | cons h _ ih => exact .cons (recP_mono _ _ _ e h) ih
/-- from own records -/
inductive TlsO (cs : List (Addr × Cel)) : List Slot → List (Option PyData) → Prop where
  | nil : TlsO cs [] []
  | sm {s : Slot} {d : PyData} {ss : List Slot} {ds : List (Option PyData)} (h : Tl cs s d) (r : TlsO cs ss ds) : TlsO cs (s :: ss) (some d :: ds)
  | nn {s : Slot} {ss : List Slot} {ds : List (Option PyData)} (r : TlsO cs ss ds) : TlsO cs (s :: ss) (none :: ds)
theorem TlsO.all {cs : List (Addr × Cel)} {G H : Hp} {bs : List Addr} (hc : CsI G H cs bs) (e : Ex G H) {ss : List Slot} {ds : List (Option PyData)} (t : TlsO cs ss ds) : ∀ {us : List V} {as : List Addr}, SsI G H ss us as → AllO H us ds := by
  induction t with
  | nil => intro us as h; cases h; exact .nil
  | sm ht _ ih =>
    intro us as h
    cases h with
    | cons h hs => exact .sm (Tl.dq hc e ht h) (ih hs)
  | nn _ ih =>
    intro us as h
    cases h with
    | cons h hs => exact .nn (ih hs)
end J
namespace J
namespace DU
open PySem PySem.Spec PyProof.Rows L2
open PySem.W (Datum DatumOrd)
abbrev P3 := PySem.W.Tup Int
def kT (q : P3) : List Key := q.items.map Sum.inl
theorem kT_inj {a b : P3} (h : kT a = kT b) : a = b := by
  cases a; cases b
  exact congrArg PySem.W.Tup.mk ((List.map_inj_right fun _ _ e => Sum.inl.inj e).mp h)
theorem dq_ints {G : Hp} : ∀ {xs : List Int} {vs : List V}, DqAll G vs (xs.map Datum.toD) → vs = (xs.map Sum.inl).map kV
  | [], _, h => by cases h; rfl
  | x :: xs, _, h => by
    cases h with
    | cons h1 h2 =>
      cases (show Dq G _ (.int x) from h1)
      rw [dq_ints h2]
      rfl
theorem ints_dq {G : Hp} : ∀ xs : List Int, DqAll G ((xs.map Sum.inl).map kV) (xs.map Datum.toD)
  | [] => .nil
  | x :: xs => .cons (.int x) (ints_dq xs)
def tget {β : Type} (m : List (P3 × β)) (k : P3) : Option β := (m.find? fun q => decide (q.1 = k)).map (·.2)
def thas {β : Type} (m : List (P3 × β)) (k : P3) : Bool := (tget m k).isSome
def tput {β : Type} (m : List (P3 × β)) (k : P3) (v : β) : List (P3 × β) := if (m.any fun q => decide (q.1 = k)) = true then m.map (fun q => if q.1 = k then (q.1, v) else q) else m ++ [(k, v)]
def tputG {β : Type} (m : List (P3 × β)) (k : P3) (v : β) : Option (List (P3 × β)) := if m.length < 16777216 then some (tput m k v) else none
section
variable {β : Type} [DecidableEq β] [Datum β] {G H : Hp}
def tks (m : List (P3 × β)) : List (List Key) := m.map fun q => kT q.1
def tss (m : List (P3 × β)) : List Slot := m.map fun q => Slot.val q.2
def dtC (m : List (P3 × β)) : Hp → HO → Prop := fun G o => ∃ gs : List (List Key × V), o = .dT gs ∧ tks m = gs.map (·.1) ∧ SsI G G (tss m) (gs.map (·.2)) []
theorem dtC_mono (m : List (P3 × β)) : MonoC (dtC m) := fun G G' o e ⟨gs, h1, h2, h3⟩ => ⟨gs, h1, h2, h3.mono e fun a h => nomatch h⟩
theorem tget_rel (k : P3) : ∀ {m : List (P3 × β)} {gs : List (List Key × V)}, tks m = gs.map (·.1) → SsI G H (tss m) (gs.map (·.2)) [] → (tget m k = none ∧ valV gs (kT k) = none) ∨ ∃ t u, tget m k = some t ∧ valV gs (kT k) = some u ∧ SlI G H (.val t) u []
  | [], [], _, _ => .inl ⟨rfl, rfl⟩
  | [], _ :: _, h, _ => by simp [tks] at h
  | _ :: _, [], h, _ => by simp [tks] at h
  | q :: m, g :: gs, h, hs => by
    have h1 : kT q.1 = g.1 := (List.cons.inj h).1
    have h2 : tks m = gs.map (·.1) := (List.cons.inj h).2
    have hs' : SsI G H (Slot.val q.2 :: tss m) (g.2 :: gs.map (·.2)) [] := hs
    generalize ha : ([] : List Addr) = as at hs'
    cases hs' with
    | cons s1 hs =>
      obtain rfl := SlI.nil s1 rfl
      rw [List.nil_append] at ha
      subst ha
      by_cases e : q.1 = k
      · have hg : g.1 = kT k := by rw [← h1, e]
        refine .inr ⟨q.2, g.2, ?_, valV_pos hg, s1⟩
        unfold tget
        rw [List.find?_cons, decide_eq_true e]
        rfl
      · have hg : ¬ g.1 = kT k := by rw [← h1]; exact fun z => e (kT_inj z)
        rw [valV_neg hg]
        have : tget (q :: m) k = tget m k := by
          unfold tget
          rw [List.find?_cons, decide_eq_false e]
        rw [this]
        exact tget_rel k h2 hs
theorem tany_rel (k : P3) : ∀ {m : List (P3 × β)} {gs : List (List Key × V)}, tks m = gs.map (·.1) → (gs.any fun kv => decide (kv.1 = kT k)) = m.any fun q => decide (q.1 = k)
  | [], [], _ => rfl
  | [], _ :: _, h => by simp [tks] at h
  | _ :: _, [], h => by simp [tks] at h
  | q :: m, g :: gs, h => by
    have h1 : kT q.1 = g.1 := (List.cons.inj h).1
    rw [List.any_cons, List.any_cons, tany_rel k (List.cons.inj h).2, ← h1]
    congr 1
    rw [decide_eq_decide]
    exact ⟨kT_inj, fun e => by rw [e]⟩
theorem tset_rel (k : P3) {v : β} {u : V} (hv : SlI G H (.val v) u []) : ∀ {m : List (P3 × β)} {gs : List (List Key × V)}, tks m = gs.map (·.1) → SsI G H (tss m) (gs.map (·.2)) [] → tks (m.map fun q => if q.1 = k then (q.1, v) else q) = (gs.map fun g => if g.1 = kT k then (g.1, u) else g).map (·.1) ∧ SsI G H (tss (m.map fun q => if q.1 = k then (q.1, v) else q)) ((gs.map fun g => if g.1 = kT k then (g.1, u) else g).map (·.2)) []
  | [], [], _, _ => ⟨rfl, .nil⟩
  | [], _ :: _, h, _ => by simp [tks] at h
  | _ :: _, [], h, _ => by simp [tks] at h
  | q :: m, g :: gs, h, hs => by
    have h1 : kT q.1 = g.1 := (List.cons.inj h).1
    have hs' : SsI G H (Slot.val q.2 :: tss m) (g.2 :: gs.map (·.2)) [] := hs
    generalize ha : ([] : List Addr) = as at hs'
    cases hs' with
    | cons s1 hs =>
      obtain rfl := SlI.nil s1 rfl
      rw [List.nil_append] at ha
      subst ha
      obtain ⟨i1, i2⟩ := tset_rel k hv (List.cons.inj h).2 hs
      simp only [List.map_cons] at i1 i2 ⊢
      by_cases e : q.1 = k
      · have hg : g.1 = kT k := by rw [← h1, e]
        rw [if_pos e, if_pos hg]
        exact ⟨congr (congrArg List.cons h1) i1, .cons (as := []) hv i2⟩
      · have hg : ¬ g.1 = kT k := by rw [← h1]; exact fun z => e (kT_inj z)
        rw [if_neg e, if_neg hg]
        exact ⟨congr (congrArg List.cons h1) i1, .cons (as := []) s1 i2⟩
theorem tput_rel (k : P3) {v : β} {u : V} (hv : SlI G H (.val v) u []) {m : List (P3 × β)} {gs : List (List Key × V)} (h : tks m = gs.map (·.1)) (hs : SsI G H (tss m) (gs.map (·.2)) []) : tks (tput m k v) = (putK gs (kT k) u).map (·.1) ∧ SsI G H (tss (tput m k v)) ((putK gs (kT k) u).map (·.2)) [] := by
  unfold tput putK
  rw [tany_rel k h]
  by_cases c : (m.any fun q => decide (q.1 = k)) = true
  · rw [if_pos c, if_pos c]
    exact tset_rel k hv h hs
  · rw [if_neg c, if_neg c]
    refine ⟨by unfold tks at h ⊢; rw [List.map_append, List.map_append, h]; rfl, ?_⟩
    show SsI G H (List.map _ (m ++ [(k, v)])) _ _
    rw [List.map_append, List.map_append]
    exact SsI.app hs (.cons (as := []) hv .nil)
theorem dq_pairA {G : Hp} {v : V} {t : P3} (h : Dq G v (Datum.toD t)) : ∃ l, v = .ref l ∧ G l = some (.tup ((kT t).map kV)) := by
  cases (show Dq G v (.tuple (t.items.map Datum.toD)) from h) with
  | @tup l vs _ hH hd =>
    rw [dq_ints hd] at hH
    exact ⟨l, rfl, hH⟩
theorem sl_pairU {G H : Hp} {q : Addr} {t : P3} (h : G q = some (.tup ((kT t).map kV))) : SlI G H (.val t) (.ref q) [] := .val (show Dq G (.ref q) (.tuple (t.items.map Datum.toD)) from .tup h (ints_dq t.items))
end
section
variable {X : Cx} {B : Base} {S S1 S2 S3 : Stt} {x y z : Slot} {a b e o : Expr} {es : List Expr} {pos apos cpos : Pos} {D : FE} {rest : List Stmt} {kk : Nat} {p : Addr} {β : Type} [DecidableEq β] [Datum β] {m : List (P3 × β)} {key : P3}
theorem sta_pairA {T : List Slot} {σ : L2.St} {tv : List V} {H : Hp} {v : V} {t : P3} (h : Sta B S (.val t :: T) σ (v :: tv) H) : ∃ l, v = .ref l ∧ H l = some (.tup ((kT t).map kV)) := by
  obtain ⟨G, as, bs, z⟩ := h
  obtain ⟨a1, a2, rfl, g1, z1⟩ := z.pop
  obtain ⟨l, rfl, hl⟩ := dq_pairA (sl_dq g1)
  exact ⟨l, rfl, z1.sub _ _ hl⟩
theorem sta_dgetT {T : List Slot} {σ : L2.St} {tv : List V} {H : Hp} {l : Addr} (h : Sta B S T σ tv H) (k : Nat) (hk : S.cs[k]? = some (p, .say (dtC m))) (hb : H l = some (.tup ((kT key).map kV))) : ∃ o : Option V, DGet H p (.ref l) o ∧ o.isSome = thas m key ∧ ∀ t, tget m key = some t → ∃ u, o = some u ∧ Sta B S (.val t :: T) σ (u :: tv) H := by
  obtain ⟨G, as, bs, z⟩ := h
  obtain ⟨oo, mm, hpp, hc, _, _, _, _⟩ := z.cellW hk (by intro e; cases e)
  cases hc with
  | say _ hc =>
    obtain ⟨gs, rfl, hks, hss⟩ := hc
    refine ⟨valV gs (kT key), DGet.t (k := kT key) hpp hb, ?_, fun t ht => ?_⟩
    · rcases tget_rel key hks hss with ⟨e1, e2⟩ | ⟨t, u, e1, e2, _⟩
      · unfold thas; rw [e1, e2]; rfl
      · unfold thas; rw [e1, e2]; rfl
    · rcases tget_rel key hks hss with ⟨e1, e2⟩ | ⟨t', u, e1, e2, su⟩
      · rw [e1] at ht; cases ht
      · rw [e1] at ht
        cases ht
        exact ⟨u, e2, z.push (su.mono (Ex.refl G) fun a h => nomatch h)⟩
theorem je_dispT0 : JE X B S (.Dict [] [] pos) S (.own (.say (dtC ([] : List (P3 × β))))) := fun T tv σ H Q hs q =>
  pe1 pe_dnewT (fun p hp => by
    obtain ⟨G, as, bs, z⟩ := hs
    exact q _ _ (z.newO hp (.say (dtC_mono _) ⟨[], rfl, rfl, .nil⟩ fun _ z => nomatch z)))
theorem je_dgetT (k : Nat) {t : β} {i : Expr} (hr : Room kk X.A) (ho : JE X B S o S1 (.v (.ref p))) (hi : JE X B S1 i S2 (.val key)) (hk : S2.cs[k]? = some (p, .say (dtC m))) (ht : tget m key = some t) (hns : NoSl i := by exact fun _ _ => rfl) : JE X B S (.Subscript o i pos) S2 (.val t) := fun T tv σ H Q h q =>
  pe1 (pe_dget (hu_of hr) pe0 pe0 hns) (ho _ _ _ _ _ h fun v1 H1 h1 => by
    have e := h1.exact
    subst e
    refine hi _ _ _ _ _ h1 fun v2 H2 h2 => ?_
    obtain ⟨l, rfl, hb⟩ := sta_pairA (h2)
    obtain ⟨o, hd, _, f⟩ := sta_dgetT (key := key) (h2.drop.drop) k hk hb
    obtain ⟨u, rfl, h3⟩ := f t ht
    exact ⟨p, u, rfl, hd, q _ _ h3⟩)
theorem js_dputT (k : Nat) {t : β} {m' : List (P3 × β)} {i : Expr} {pos' : Pos} (hr : Room kk X.A) (he : JE X B S e S1 (.val t)) (ho : JE X B S1 o S2 (.v (.ref p))) (hi : JE X B S2 i S3 (.val key)) (hk : S3.cs[k]? = some (p, .say (dtC m))) (hm : tputG m key t = some m') (kx : JS X B ⟨S3.sl, S3.cs.set k (p, .say (dtC m'))⟩ rest D)
    (hs : swapsWith e (some (.Subscript o i pos')) pos.line X.env = pure false := by rfl) : JS X B S (.Assign [.Subscript o i pos'] e pos :: rest) D :=
  js_step (ps_dput (hu_of hr) pe0 pe0 pe0 hs) fun T tv σ H h => he _ _ _ _ _ h fun v H1 h1 => ho _ _ _ _ _ h1 fun w1 H2 h2 => by
    have e := h2.exact
    subst e
    refine hi _ _ _ _ _ h2 fun w2 H3 h3 => ?_
    obtain ⟨l, rfl, hb⟩ := sta_pairA (h3)
    obtain ⟨G, as, bs, z0⟩ := h3.drop.drop
    obtain ⟨a1, a2, rfl, hs1, z⟩ := z0.pop
    obtain rfl := hs1.nil rfl
    obtain ⟨oo, mm, hpp, hc, _, hm1, _, reb⟩ := z.cellW hk (by intro e; cases e)
    cases hc with
    | say _ hc =>
      obtain ⟨gs, rfl, hks, hss⟩ := hc
      unfold tputG at hm
      split at hm
      · rename_i hlt
        cases hm
        have hlen : gs.length = m.length := by
          have := congrArg List.length hks
          unfold tks at this
          rw [List.length_map, List.length_map] at this
          exact this.symm
        have hs2 : SlI G G (.val t) v [] := .val (sl_dq hs1)
        obtain ⟨e1, e2⟩ := tput_rel key hs2 hks hss
        have hnew : CeI G (upd H3 p (.dT (putK gs (kT key) v))) (.say (dtC (tput m key t))) (.dT (putK gs (kT key) v)) [] := .say (dtC_mono _) ⟨_, rfl, e1, e2⟩ fun _ z => nomatch z
        obtain ⟨bs', z3⟩ := reb hnew (List.Sublist.refl _)
        exact ⟨p, _, rfl, DPut.t (k := kT key) hpp hb (small16 (by omega)), kx _ _ _ _ z3.sta⟩
      · cases hm
end
section
variable {X : Cx} {B : Base} {S S1 S2 S3 : Stt} {x y z : Slot} {a b e o i e2 : Expr} {es : List Expr} {pos apos cpos : Pos} {D : FE} {rest : List Stmt} {kk : Nat} {p : Addr}
/-- d.get(tuple, e) -/
theorem je_getT2 {β : Type} [DecidableEq β] [Datum β] {m m0 : List (P3 × β)} {key : P3} {t : β} (k : Nat) (hr : Room kk X.A) (ho : JE X B S o S1 (.v (.ref p))) (hk0 : S1.cs[k]? = some (p, .say (dtC m0))) (hi : JE X B S1 i S2 (.val key)) (he : JE X B S2 e2 S3 (.val t)) (hk : S3.cs[k]? = some (p, .say (dtC m)))
    (hbase : attributeBase o "get" X.env (eval o X.env) = eval o X.env := by rfl)
    (hfew : ((backTo cpos (starEach [i, e2] X.env)).all (fun x => !x.1) && (backToKw cpos (keywordEach [] X.env)).all (fun x => x.1.isSome) && decide (([i, e2] : List Expr).length + ([] : List Keyword).length + (if ([] : List Keyword).isEmpty then 0 else 1) < 30)) = true := by rfl)
    (hline : (apos.endLine == cpos.line) = true := by rfl) (htr : backTo cpos (starEach [i, e2] X.env) = [(false, eval i X.env), (false, eval e2 X.env)] := by rfl) : JE X B S (.Call (.Attribute o "get" apos) [i, e2] [] cpos) S3 (.val ((tget m key).getD t)) := fun T tv σ H Q h q =>
  pe1 (pe_dget2 (hu_of hr) pe0 pe0 pe0 ⟨hbase, hfew, hline, htr⟩) (ho _ _ _ _ _ h fun v1 H1 h1 => by
    have e := h1.exact
    subst e
    refine ⟨p, rfl, ?_, hi _ _ _ _ _ h1 fun v2 H2 h2 => he _ _ _ _ _ h2 fun v3 H3 h3 => ?_⟩
    · obtain ⟨G, as, bs, z⟩ := h1
      obtain ⟨oo, mm, hpp, hc, _⟩ := z.cellW hk0 (by nofun)
      cases hc with
      | say _ hc =>
        obtain ⟨gs, rfl, _, _⟩ := hc
        exact .inr ⟨gs, .inl hpp⟩
    · obtain ⟨l, rfl, hb⟩ : ∃ l, v2 = .ref l ∧ H3 l = some (.tup ((kT key).map kV)) := sta_pairA h3.drop
      obtain ⟨ov, hd, hsm, f⟩ := sta_dgetT (key := key) (h3.drop.drop.drop) k hk hb
      refine ⟨ov, hd, ?_⟩
      cases hg : tget m key with
      | none =>
        rw [hg] at q
        have : ov = none := by
          unfold thas at hsm
          rw [hg] at hsm
          cases ov with
          | none => rfl
          | some _ => cases hsm
        subst this
        exact q _ _ (Sta.perm2 (Sta.perm2 h3).drop).drop
      | some t' =>
        rw [hg] at q
        obtain ⟨u, rfl, h4⟩ := f t' hg
        exact q _ _ h4)
end
end DU
end J
namespace J
namespace DU
open PySem PySem.Spec PyProof.Rows L2
open PySem.W (Datum DatumOrd)
theorem tellsU {B : Base} {S : Stt} {T : List Slot} {σ : L2.St} {tv : List V} {H : Hp} {as bs : List Addr} : ∀ (ps : List P3) (ys : List Addr) (G : Hp), St0 B S T σ tv H G as bs → Paired (fun p b => H b = some (.tup ((kT p).map kV))) ps ys → ∃ G', St0 B S T σ tv H G' as bs ∧ Ex G G' ∧ SsI G' H (ps.map Slot.val) (ys.map V.ref) []
  | [], _, G, z, h => by cases h; exact ⟨G, z, Ex.refl G, .nil⟩
  | p :: ps, _, G, z, h => by
    cases h with
    | @cons _ b _ ys h1 h2 =>
      obtain ⟨G1, z1, e1, g1⟩ := z.tell h1
      obtain ⟨G2, z2, e2, g2⟩ := tellsU ps ys G1 z1 h2
      exact ⟨G2, z2, e1.trans e2, .cons (as := []) (sl_pairU (e2 _ _ g1)) g2⟩
theorem keys_of {β : Type} [DecidableEq β] [Datum β] {H : Hp} : ∀ {m : List (P3 × β)} {gs : List (List Key × V)} {bs : List Addr}, tks m = gs.map (·.1) → IsKeys H gs bs → Paired (fun p b => H b = some (.tup ((kT p).map kV))) (m.map (·.1)) bs
  | [], [], _, _, h => by
    unfold IsKeys at h
    cases h
    exact .nil
  | [], _ :: _, _, e, _ => by cases e
  | _ :: _, [], _, e, _ => by cases e
  | q :: m, g :: gs, _, e, h => by
    unfold IsKeys at h
    cases h with
    | cons h1 h2 =>
      have e1 : kT q.1 = g.1 := (List.cons.inj e).1
      exact .cons (by rw [e1]; exact h1) (keys_of (List.cons.inj e).2 h2)
section
variable {β : Type} [DecidableEq β] [Datum β] {X : Cx} {B : Base} {S S1 S2 S3 : Stt} {x y z : Slot} {a b e o tg : Expr} {es : List Expr} {pos apos cpos : Pos} {D : FE} {rest : List Stmt} {p q : Addr} {kk : Nat} {m : List (P3 × β)} {key : P3} {t : β}
theorem je_listU {sp : Pos} (k : Nat) (hm : X.mg "list" = none) (ha : JE X B S e S1 (.v (.ref p))) (hk : S1.cs[k]? = some (p, .say (dtC m))) (hc : X.calm = true := by rfl) (hg : Gl X "list" := by rfl) (hst : starEach [e] X.env = (false, eval e X.env) :: starEach [] X.env := by rfl) :
    JE X B S (.Call (.Name "list" sp) [e] [] pos) S1 (.own (.lst ((m.map (·.1)).map Slot.val))) :=
  je_callT (call_list_dT hc) hm (by decide +kernel) (ja_cons ha ja_nil hst) (oc1 fun T tv σ v H Q hs q => by
    have ev := hs.exact
    subst ev
    obtain ⟨G, as, bs, z⟩ := hs.drop
    obtain ⟨oo, mm, hpp, hcc, _⟩ := z.cellW hk (by nofun)
    cases hcc with
    | say _ hcc =>
      obtain ⟨gs, rfl, hks, hss⟩ := hcc
      refine ⟨p, gs, rfl, .inl hpp, fun r ys hn hy => ?_⟩
      obtain ⟨G2, z2, _, hs2⟩ := tellsU _ ys G z (keys_of hks hy)
      exact q _ _ (z2.newO hn (.lst (SsI.mono hs2 (Ex.refl G2) fun a ha => nomatch ha)))) hg (by decide) (by decide) hst
end
section
variable {prog : Program} {w : World} {r d : Addr} {es : Array DictEntry} {ep : Nat}
theorem kdl_rawV : PySem.W.KdlSrc prog w "dict_values" r d es.size (fun i v => ∃ hi : i < es.size, v = es[i].val) (fun h => h.IsValuesView r d ∧ h.DictRaw d es ep) where
  type := fun _ hm => hm.1.typeIs
  there := fun _ hm => ⟨let ⟨_, ho, _⟩ := hm.1; Heap.lt_size ho, let ⟨_, ho, _⟩ := hm.2; Heap.lt_size ho⟩
  keep := fun _ _ hm hk => ⟨let ⟨o, ho, x⟩ := hm.1; ⟨o, hk r (.inl rfl) o ho, x⟩, hm.2.at fun o e => hk d (.inr rfl) o e⟩
  notList := by decide
  notTuple := by decide
  hint := fun _ _ _ _ hm hq => PySem.W.kdl_hint_values hm.1.typeIs hq
  iter := fun _ _ hh hm => ⟨_, _, (fun _ _ hq => wpAny_pyIter_values_raw hm.1 hm.2 hq), Walks.rawValues hh _ d (let ⟨_, ho, _⟩ := hm.2; Nat.ne_of_lt (Heap.lt_size ho)) es ep, ⟨⟨_, Heap.get?_push_size _ rfl, rfl, rfl⟩, hm.2.at fun o e => Heap.get?_push_of_some _ e⟩⟩
end
theorem pairedAt {α γ : Type} {F : α → γ → Prop} {l : List α} {m : List γ} (h : Paired F l m) : ∀ {j : Nat} (h1 : j < l.length) (h2 : j < m.length), F l[j] m[j] := by
  induction h with
  | nil => intro j h1; exact absurd h1 (Nat.not_lt_zero _)
  | cons h t ih =>
    intro j h1 h2
    cases j with
    | zero => exact h
    | succ j => exact ih (Nat.lt_of_succ_lt_succ h1) (Nat.lt_of_succ_lt_succ h2)
def tListValsT (te : TE) : TE := fun σ H Q => te σ H fun x H1 => ∃ (d : Addr) (gs : List (List Key × V)), x = .ref d ∧ H1 d = some (.dT gs) ∧ ∀ p, H1 p = none → Q (.ref p) (upd H1 p (.lst (gs.map (·.2))))
theorem pe_listValsT {X : Cx} {e : Expr} {te : TE} {p apos cpos pos : Pos} (hc : X.calm = true) (he : PE X e te) (hg : Gl X "list") (hm : X.mg "list" = none) (hv : bootBuiltins "list" = some (.type "list")) (hbase : attributeBase e "values" X.env (eval e X.env) = eval e X.env := by rfl) (hline : (apos.endLine == cpos.line) = true := by rfl)
    (hs : starEach [.Call (.Attribute e "values" apos) [] [] cpos] X.env = (false, eval (.Call (.Attribute e "values" apos) [] [] cpos) X.env) :: starEach [] X.env := by rfl) :
    PE X (.Call (.Name "list" p) [.Call (.Attribute e "values" apos) [] [] cpos] [] pos) (tListValsT te) := by
  refine ⟨fun pins s σ H Q I hq => ?_⟩
  refine wpAny_Call_Name_kw (ld_blt I hg hm hv ?_)
  refine PyProof.Rows.callWith_type1 ?_ hs rfl
  rw [hs]
  show wpAny _ _ (spliced ((false, eval (.Call (.Attribute e "values" apos) [] [] cpos) X.env) :: backTo pos (starEach [] X.env))) _ _ s
  refine Calls.spliced_cons ?_
  refine wpAny_Call_method (T := "dict") (id := "dict.values") hbase rfl hline F.plainAttrs_dict F.slot_dict_values F.type_dict_values (thn (he.run pins s σ H _ I hq) fun u s1 ⟨x, H1, I1, rx, d, gs, ex, hd, q⟩ => ?_)
  subst ex
  obtain rfl : u = Value.ref d := rx
  obtain ⟨hz, hs0, xs, pr, o, es, ep, ho, hx, hdt, hes, hn⟩ := (show ObjOk X.prog X.w H1 s1.heap d (.dT gs) from I1.hok d _ hd)
  have raw : s1.heap.DictRaw d es ep := ⟨o, ho, hx, hdt⟩
  have l1 : es.size = xs.length := size_of_entries hes
  have lk : gs.length = xs.length := Paired.length pr
  have I2 : Inv X pins σ H1 { s1 with heap := s1.heap.push { cls := .type "dict_values", data := .fields #[.ref d] } } := I1.kept (t' := s1.toks) fun b ob q => Heap.get?_push_of_some _ q
  refine ⟨raw.typeIs, fun a ea => by cases ea; exact ⟨o, ho, hx.2.1⟩, ?_⟩
  show wpAny _ _ (callWith cpos (.builtin "dict.values") [.ref d] [] []) _ X.xe s1
  refine method_meetsIn F.slot_dict_values F.entry_dict_values rfl (PySem.evalArgs_none ⟨rfl, raw.typeIs, F.args_dict_values_1 _, _, meets_dict_values_raw d hs0, ⟨⟨es, ep, raw⟩, ?_⟩⟩)
  refine Calls.spliced_nil ?_
  refine PySem.W.kdl_call (kdl_rawV (es := es) (ep := ep)) (I1.ok.hd hc) ⟨⟨_, Heap.get?_push_size _ rfl, rfl, rfl⟩, raw.at fun o e => Heap.get?_push_of_some _ e⟩ (by omega) fun h' tk acc' c' hkeep hS hacc => ?_
  refine ⟨.ref _, upd H1 _ (.lst (gs.map (·.2))), I2.laid hkeep (Nat.le_refl _) (show ObjOk X.prog X.w _ _ _ (.lst (gs.map (·.2))) from ⟨?_, acc'.toList, c', ?_, ?_⟩), rfl, q _ (I2.hok.fresh (Nat.le_refl _))⟩
  · rw [List.length_map]; exact hz
  · have el : acc'.toList.length = acc'.size := by simp
    refine vals_of_at (by rw [List.length_map, el, hacc.1, lk, l1]) fun j x w h1 h2 => ?_
    obtain ⟨hi, hky⟩ := hacc.2 j w (by rw [← Array.getElem?_toList]; exact h2)
    have qe := entry_at hes j
    rw [Array.getElem?_eq_getElem hi] at qe
    have hjx : j < xs.length := by omega
    rw [List.getElem?_eq_getElem hjx] at qe
    have qe : es[j] = entryOfKey (tupleKind (mixKind X.prog X.w)) xs[j] := Option.some.inj qe
    rw [List.getElem?_map] at h1
    have hjg : j < gs.length := by omega
    rw [List.getElem?_eq_getElem hjg] at h1
    have h1 : gs[j].2 = x := Option.some.inj h1
    subst h1
    rw [hky, qe]
    exact (pairedAt pr hjg hjx).2.2
  · rw [Array.toArray_toList]; exact hS
theorem pe_dispT1 {X : Cx} {pos : Pos} {ek ev : Expr} (hu : X.A.units < cLine) {tk tv : TE} (hk : PE X ek tk) (hv : PE X ev tv) : PE X (.Dict [some ek] [ev] pos) (fun σ H Q => ∀ p, H p = none → tPairs [(tk, tv)] σ (upd H p (.dT [])) fun ps H2 => ∃ x y, ps = [(x, y)] ∧ H2 p = some (.dT []) ∧ ∃ (k : List Key) (b : Addr), x = .ref b ∧ H2 b = some (.tup (k.map kV)) ∧ Q (.ref p) (upd H2 p (.dT [(k, y)]))) := by
  refine ⟨fun pins s σ H Q I q => ?_⟩
  have hn := I.hok.fresh (Nat.le_refl s.heap.objs.size)
  have I1 := I.laid (a := s.heap.objs.size) (o := .dT []) (h' := s.heap.push { cls := .type "dict", data := .dict #[] }) (t' := s.toks) (fun _ _ q => Heap.get?_push_of_some _ q) (Nat.le_refl _) (dt_empty s.heap I.big)
  have hp : PPs X pos [some ek] [ev] [(tk, tv)] := pps_cons hk hv pps_nil
  have hlen := pairTrees_length [some ek] [ev] X.env pos rfl rfl
  rw [arm_eval_Dict, zip_pairTrees [some ek] [ev] X.env pos rfl rfl, dictDisplay_pairs (pairTrees [some ek] [ev] X.env pos) (by intro e; rw [e] at hlen; cases hlen) (by rw [hlen]; exact Nat.le_of_ble_eq_true rfl)]
  refine wpAny_bind (wpAny_standAt (wpAny_bind (wpAny_subDictH (knd := tupleKind (mixKind X.prog X.w)) (Q := fun d s' => wpAny (model X.prog X.w) X.A (pure (Value.ref d)) (EP X pins σ Q) X.xe s') hu (by rw [hlen]; exact Nat.le_of_ble_eq_true rfl) (thn (hp.run pins _ σ _ _ I1 (q _ hn)) fun ws s2 h2 => ?_))))
  obtain ⟨ps, H2, I2, rel, x, y, eps, e, k, b, ex, eb, go⟩ := h2
  subst eps ex
  cases rel with
  | @cons _ w1 _ ws r1 r2 =>
    cases r2
    obtain ⟨u1, u2⟩ := w1
    obtain ⟨ru, rv⟩ := r1
    obtain rfl : u1 = Value.ref b := ru
    obtain ⟨_, hs0, xs, kt, dd⟩ := dt_of I2.hok e
    cases kt
    refine ⟨[(k, b, u2)], ⟨rfl, rfl, key_of I2.hok eb, trivial⟩, dd, fun h' tk' dd' hs => wpAny_pure ?_⟩
    have es : storedAllH ([] : List (List Key × Addr × Value)) [(k, b, u2)] = [(k, b, u2)] := rfl
    rw [es] at dd'
    obtain ⟨o, es2, ep, h1, h2, h3, h4, h5, h6⟩ := dd'
    have nb : b ≠ s.heap.objs.size := fun z => by rw [z, e] at eb; cases eb
    refine ⟨.ref s.heap.objs.size, _, d_write (ob := .dT [(k, y)]) I2 (by rw [e]; exact True.intro) hs ⟨o, h1⟩ ⟨?_, hs0, [(k, b, u2)], .cons ⟨rfl, by rw [upd_ne nb]; exact eb, rv⟩ .nil, o, es2, ep, h1, h2, h3, h4, h6⟩, rfl, go⟩
    rw [sizeLine_eq]
    show (1 : Nat) ≤ _
    omega
section
variable {β : Type} [DecidableEq β] [Datum β] {X : Cx} {B : Base} {S S1 S2 S3 : Stt} {x y z : Slot} {a b e o tg ek ev : Expr} {es : List Expr} {pos apos cpos : Pos} {D : FE} {rest : List Stmt} {p q : Addr} {kk : Nat} {m : List (P3 × β)} {key : P3} {t : β}
theorem je_dispU1 (hr : Room kk X.A) (hk : JE X B S ek S1 (.val key)) (hv : JE X B S1 ev S2 (.val t)) : JE X B S (.Dict [some ek] [ev] pos) S2 (.own (.say (dtC [(key, t)]))) := fun T tv σ H Q hs q =>
  pe1 (pe_dispT1 hr.units0 pe0 pe0) fun p hp => by
    obtain ⟨G0, as0, bs0, z0⟩ := id hs
    have start : Sta B S (.own (.say (dtC ([] : List (P3 × β)))) :: T) σ (.ref p :: tv) (upd H p (.dT [])) := z0.newO hp (.say (dtC_mono _) ⟨[], rfl, rfl, .nil⟩ (by nofun))
    show teOf X ek σ (upd H p (.dT [])) _
    refine hk _ _ _ _ _ start fun v1 H1 s1 => ?_
    show teOf X ev σ H1 _
    refine hv _ _ _ _ _ s1 fun v2 H2 s2 => ?_
    obtain ⟨G, as, bs, w⟩ := s2
    obtain ⟨a1, a2, rfl, g1, w1⟩ := w.pop
    obtain rfl := g1.nil rfl
    obtain ⟨a3, a4, rfl, g2, w2⟩ := w1.pop
    obtain rfl := g2.nil rfl
    obtain ⟨l, rfl, hl⟩ := dq_pairA (sl_dq g2)
    obtain ⟨a5, a6, rfl, g3, w3⟩ := w2.pop
    cases g3 with
    | @own _ _ oo mm hD hc =>
      cases hc with
      | say mo hcc nt =>
        obtain ⟨gs, rfl, e1, e2⟩ := hcc
        obtain rfl : gs = [] := by cases gs with | nil => rfl | cons g gs => cases e1
        refine ⟨.ref l, v2, rfl, hD, kT key, l, rfl, w.sub _ _ hl, q _ _ ?_⟩
        have nd : (p :: (a6 ++ bs)).Nodup := by simpa using w.nod
        have nD : ∀ a ∈ a6 ++ bs, a ≠ p := fun a ha e => (List.nodup_cons.mp nd).1 (e ▸ ha)
        have fr := fun a (ha : a ∈ p :: (a6 ++ bs)) => w.fre a (by simpa using ha)
        have hG : G p = none := (fr p (by simp)).1
        have hF : B.F p = none := (fr p (by simp)).2
        have hnew : CeI G (upd H2 p (.dT [(kT key, v2)])) (.say (dtC [(key, t)])) (.dT [(kT key, v2)]) [] := .say (dtC_mono _) ⟨[(kT key, v2)], rfl, rfl, .cons (as := []) (.val (sl_dq g1)) .nil⟩ (by nofun)
        exact ⟨G, p :: a6, bs, .cons (as := [p]) (.own upd_same hnew) (w3.tmp.mono (Ex.refl G) fun a ha => upd_ne (nD a (by simp [ha]))), w.cel.mono (Ex.refl G) fun a ha => upd_ne (nD a (by simp [ha])), w.slo, by simpa using nd, fun a ha => fr a (by simpa using ha), w.gro, w.new,
          fun a u ha => by rw [upd_ne (by intro e; subst e; rw [hG] at ha; cases ha)]; exact w.sub a u ha, fun a u ha => by rw [upd_ne (by intro e; subst e; rw [hF] at ha; cases ha)]; exact w.frm a u ha⟩
theorem je_listValsU {p1 : Pos} (k : Nat) (hm : X.mg "list" = none) (ho : JE X B S o S1 (.v (.ref p))) (hk : S1.cs[k]? = some (p, .say (dtC m))) (hc : X.calm = true := by rfl) (hg : Gl X "list" := by rfl) (hbase : attributeBase o "values" X.env (eval o X.env) = eval o X.env := by rfl) (hline : (apos.endLine == cpos.line) = true := by rfl)
    (hst : starEach [.Call (.Attribute o "values" apos) [] [] cpos] X.env = (false, eval (.Call (.Attribute o "values" apos) [] [] cpos) X.env) :: starEach [] X.env := by rfl) :
    JE X B S (.Call (.Name "list" p1) [.Call (.Attribute o "values" apos) [] [] cpos] [] pos) S1 (.own (.lst ((m.map (·.2)).map Slot.val))) := fun T tv σ H Q hs q =>
  pe1 (pe_listValsT hc pe0 hg hm (by decide +kernel) hbase hline hst) (ho _ _ _ _ _ hs fun v H1 h1 => by
    have ev := h1.exact
    subst ev
    obtain ⟨G, as, bs, z⟩ := h1.drop
    obtain ⟨oo, mm, hpp, hcc, _⟩ := z.cellW hk (by nofun)
    cases hcc with
    | say _ hcc =>
      obtain ⟨gs, rfl, hks, hss⟩ := hcc
      have hss : SsI G G ((m.map (·.2)).map Slot.val) (gs.map (·.2)) [] := by
        have e : tss m = (m.map (·.2)).map Slot.val := by unfold tss; rw [List.map_map]; rfl
        rw [← e]; exact hss
      exact ⟨p, gs, rfl, hpp, fun r hn => q _ _ (z.newO hn (.lst (SsI.mono hss (Ex.refl G) fun a ha => nomatch ha)))⟩)
end
end DU
end J
namespace J
open PySem PyProof.Rows SrtO
section
variable {prog : Program} {w : World} {A : Around} {E : Value → Shared → Prop} {s : Shared}
theorem collect_tup {l : Addr} {vs : List Value} {Q : List Value → Shared → Prop} (hl : IsTup s.heap l vs.toArray)
    (h : Q vs { s with heap := (s.heap.push (seqObj "list" #[] 0)).update s.heap.objs.size (Obj.mapSeq (· ++ vs.toArray)) }) (hsz : vs.length ≤ sizeLine) :
    wpAny (model prog w) A (collect (.ref l)) Q E s := by
  obtain ⟨o, ho, hc, n, hd⟩ := id hl
  unfold collect
  refine wpAny_bind (wpAny_runValue (codeAny_builtin entry_proto_collect' ?_))
  show wpAny _ _ (do again (.builtin "list.__iadd__" ⟨[← newList [], .ref l], []⟩)) _ _ s
  refine wpAny_bind (wpAny_newList (wpAny_pure ⟨Code.quiet_builtin _ (by decide +kernel), codeAny_builtin entry_list_iadd' ?_⟩))
  show wpAny _ _ (Builtin.List.listExtendWith (.ref s.heap.objs.size) (.ref l) (.ref s.heap.objs.size)) _ _ { s with heap := s.heap.push (seqObj "list" #[] 0) }
  unfold Builtin.List.listExtendWith
  have ho' : (s.heap.push (seqObj "list" #[] 0)).get? l = some o := Heap.get?_push_of_some _ ho
  refine wpAny_bind (wpAny_typeOf (T := "tuple") ⟨o, ho', hc⟩ ?_)
  have ht : (Value.type "tuple" == Value.type "tuple") = true := by rfl
  rw [if_pos (by rw [ht]; simp)]
  refine wpAny_bind (listItems_at ho' hd ?_)
  refine wpAny_bind (listItems_at (xs := #[]) (n := 0) (Heap.get?_push_size _ rfl) rfl ?_)
  rw [if_neg (by simp)]
  refine wpAny_bind (listUpdate_at (xs := #[]) (n := 0) (Heap.get?_push_size _ rfl) rfl ?_ (Nat.zero_le _) (by show (#[] ++ vs.toArray).size ≤ sizeLine + 1; simp only [Array.size_append, List.size_toArray, List.length_nil]; omega))
  refine wpAny_pure ?_
  show wpAny (model prog w) A (do
      let o ← load s.heap.objs.size
      match o.data with
      | .seq xs _ => pure xs.toList
      | _ => unsupported "internal:collect") Q E { s with heap := (s.heap.push (seqObj "list" #[] 0)).update s.heap.objs.size (Obj.mapSeq (· ++ vs.toArray)) }
  refine wpAny_bind (wpAny_load (get?_update_seq (Heap.get?_push_size _ rfl) _) ?_)
  show wpAny _ _ (pure ((#[] : Array Value) ++ vs.toArray).toList) Q E _
  rw [show ((#[] : Array Value) ++ vs.toArray).toList = vs by simp]
  exact wpAny_pure h
theorem sorted_ordT {l : Addr} {vs : List Value} {ltv : Value → Value → Bool} {Q : Value → Shared → Prop} (O : Swo ltv) (hl : IsTup s.heap l vs.toArray) (hz : vs.length ≤ sizeLine)
    (hS : 2 ≤ vs.length → ∀ (h₁ : Heap) (a : Addr), h₁.get? a = some (seqObj "list" vs.toArray 0) → (∀ b o, s.heap.get? b = some o → b ≠ a ∧ h₁.get? b = some o) → SortableO prog w A.in1.in1 { s with heap := h₁ } a vs ltv)
    (h : ∀ out : List Value, Srtd ltv out → Stb ltv out vs → Q (.ref (s.heap.objs.size + 1)) { s with heap := sortedAll s.heap vs out.toArray }) :
    wpAny (model prog w) A (call (.builtin "sorted") [.ref l]) Q E s := by
  refine Calls.call_function_entry kind_sorted plain_sorted entry_sorted (args_sorted1 _) ?_
  unfold Builtin.«sorted»
  refine wpAny_bind (m := checkCount "sorted" 1 1 _) (wpAny_pure ?_)
  refine wpAny_bind (collect_tup hl ?_ hz)
  refine wpAny_bind (wpAny_newList ?_ hz)
  have hsz : ((s.heap.push (seqObj "list" #[] 0)).update s.heap.objs.size (Obj.mapSeq (· ++ vs.toArray))).objs.size = s.heap.objs.size + 1 := by
    rw [Heap.size_update, size_push']
  have hoL : (((s.heap.push (seqObj "list" #[] 0)).update s.heap.objs.size (Obj.mapSeq (· ++ vs.toArray))).push (seqObj "list" vs.toArray 0)).get? (s.heap.objs.size + 1) = some (seqObj "list" vs.toArray 0) := by
    rw [← hsz]; exact Heap.get?_push_size _ rfl
  have keep : ∀ b o, s.heap.get? b = some o → b ≠ s.heap.objs.size + 1 ∧ (((s.heap.push (seqObj "list" #[] 0)).update s.heap.objs.size (Obj.mapSeq (· ++ vs.toArray))).push (seqObj "list" vs.toArray 0)).get? b = some o := fun b o q => by
    have hlt : b < s.heap.objs.size := Heap.lt_size q
    refine ⟨Nat.ne_of_lt (Nat.lt_succ_of_lt hlt), Heap.get?_push_of_some _ ?_⟩
    rw [Heap.get?_update_ne _ _ _ _ (Nat.ne_of_lt hlt)]
    exact Heap.get?_push_of_some _ q
  show wpAny _ _ _ _ _ { s with heap := ((s.heap.push (seqObj "list" #[] 0)).update s.heap.objs.size (Obj.mapSeq (· ++ vs.toArray))).push (seqObj "list" vs.toArray 0) }
  rw [hsz]
  refine wpAny_bind (wpAny_holding (wpAny_call_entry slot_list_sort ⟨_, hoL, rfl⟩ entry_list_sort (list_sort_ord O hoL hz (fun h2 => hS h2 _ _ hoL keep) fun out hs hb => ⟨_, rfl, ?_⟩) (args_list_sort _)))
  exact wpAny_pure ⟨_, rfl, h out hs hb⟩
end
end J
namespace J
open PySem PySem.Spec PyProof.Rows L2
open PySem.W (Datum)
def rSortedT (K : PySem.W.Frag) : List V → Hp → VK → Prop := fun vs H Q => ∃ (a : Addr) (ns : List Int), vs = [V.ref a] ∧ SqT K H a (ns.map V.int) ∧
  ∀ (ns' : List Int) (p : Addr), ns'.Perm ns → ns'.Pairwise (· ≤ ·) → H p = none → Q (.ref p) (upd H p (.lst (ns'.map V.int)))
theorem cr_sortedT {X : Cx} : CallR X (.builtin "sorted") (rSortedT X.K) := by
  intro pins s σ H vs us Q I r h
  obtain ⟨a, ns, rfl, hs, q⟩ := h
  obtain ⟨its, rv, hl, hz⟩ := I.tuple hs
  rw [Vals.ref1 r]
  have hi := rv.ints
  refine sorted_ordT SrtO.swo_int hl (by rw [← rv.length]; exact hz) (fun h2 h₁ a' _ _ => SrtO.ints_sortable hi h2) fun out h1 h2 => ?_
  obtain ⟨k1, k2, k3⟩ := SrtO.ints_out hi h1 h2
  obtain ⟨ep, he'⟩ := PyProof.Rows.sortedAll_at s.heap its out.toArray
  have hlen : ((out.map SrtO.iv).map V.int).length ≤ sizeLine := by
    rw [List.length_map, k2.length_eq]
    rw [List.length_map] at hz
    exact hz
  exact ⟨.ref _, upd H (s.heap.objs.size + 1) (.lst ((out.map SrtO.iv).map V.int)), I.laid (t' := s.toks) (fun _ _ => PyProof.Rows.sortedAll_old) (Nat.le_succ _) ⟨hlen, out, ep, vals_of_ints k1, he'⟩, rfl, q _ _ k2 k3 (I.hok.fresh (Nat.le_succ _))⟩
section
variable {X : Cx} {B : Base} {S S1 S2 S3 : Stt} {a b e : Expr} {pos : Pos}
theorem dq_intsJ {G : Hp} : ∀ {xs : List Int} {vs : List V}, DqAll G vs (xs.map Datum.toD) → vs = xs.map V.int
  | [], _, h => by cases h; rfl
  | x :: xs, _, h => by
    cases h with
    | cons h1 h2 =>
      cases (show Dq G _ (.int x) from h1)
      rw [dq_intsJ h2]
      rfl
theorem je_sortU {q : Pos} {xs : List Int} (hm : X.mg "sorted" = none) (ha : JE X B S e S1 (.val (PySem.W.Tup.mk xs))) (hg : Gl X "sorted" := by rfl) (hst : starEach [e] X.env = (false, eval e X.env) :: starEach [] X.env := by rfl) : JE X B S (.Call (.Name "sorted" q) [e] [] pos) S1 (.own (.lst ((sortI xs).map Slot.val))) :=
  je_callB cr_sortedT hm (by decide +kernel) (ja_cons ha ja_nil hst) (oc1 fun T tv σ v H Q hs q => by
    obtain ⟨G, as, bs, z⟩ := hs
    obtain ⟨a1, a2, rfl, g1, z1⟩ := id z.pop
    have x1 := sl_dq g1
    cases x1 with
    | @tup l vs _ hH hd =>
      have ev : vs = xs.map V.int := dq_intsJ hd
      subst ev
      have ea : a1 = [] := g1.nil rfl
      subst ea
      refine ⟨l, xs, rfl, .inl (.inl (z.sub _ _ hH)), fun ns' r pm ho hn => q _ _ (z1.newO hn (.lst ?_))⟩
      rw [← sortI_eq pm ho]
      exact ss_of_ints _) hg (by decide) (by decide) hst
/-- t + (x,): a tuple of ints and one more -/
theorem je_catU {xs ys : List Int} (ha : JE X B S a S1 (.val (PySem.W.Tup.mk xs))) (hb : JE X B S1 b S2 (.val (PySem.W.Tup.mk ys))) (hl : xs.length + ys.length ≤ 1000) : JE X B S (.BinOp a .Add b pos) S2 (.val (PySem.W.Tup.mk (xs ++ ys))) :=
  je_catTT (d1 := xs.map Datum.toD) (d2 := ys.map Datum.toD) ha hb rfl rfl (by show PyData.tuple ((xs ++ ys).map Datum.toD) = _; rw [List.map_append]) (by rw [List.length_map, List.length_map]; exact hl)
def catU (t u : PySem.W.Tup Int) : Option (PySem.W.Tup Int) := if t.items.length + u.items.length ≤ 1000 then some ⟨t.items ++ u.items⟩ else none
theorem je_catUG {t u r : PySem.W.Tup Int} (ha : JE X B S a S1 (.val t)) (hb : JE X B S1 b S2 (.val u)) (h : catU t u = some r) : JE X B S (.BinOp a .Add b pos) S2 (.val r) := by
  unfold catU at h
  split at h
  · rename_i hl
    cases h
    exact je_catU ha hb hl
  · cases h
theorem je_sortUG {q : Pos} {t : PySem.W.Tup Int} (hm : X.mg "sorted" = none) (ha : JE X B S e S1 (.val t)) (hg : Gl X "sorted" := by rfl) (hst : starEach [e] X.env = (false, eval e X.env) :: starEach [] X.env := by rfl) : JE X B S (.Call (.Name "sorted" q) [e] [] pos) S1 (.own (.lst ((sortI t.items).map Slot.val))) := je_sortU hm ha hg hst
theorem inV_ints {t : Int} : ∀ xs : List Int, inV (.int t) (xs.map V.int) = decide (t ∈ xs)
  | [] => by simp [inV]
  | x :: xs => by
    have e := inV_ints (t := t) xs
    unfold inV at e ⊢
    rw [List.map_cons, List.any_cons, e]
    show ((x == t) || _) = _
    rw [Bool.eq_iff_iff, Bool.or_eq_true, beq_iff_eq, decide_eq_true_eq, decide_eq_true_eq, List.mem_cons, eq_comm]
theorem flat_ints : ∀ xs : List Int, (xs.map V.int).all flatV = true
  | [] => rfl
  | _ :: xs => by
    rw [List.map_cons, List.all_cons, flat_ints xs]
    rfl
theorem o2_inTI {t : Int} {u : PySem.W.Tup Int} : O2 X B (rIn X.K false) S (.val t) (.val u) S (.val (decide (t ∈ u.items))) := fun T tv σ v w H Q h q => by
  obtain ⟨G, as, bs, z⟩ := h
  obtain ⟨a1, a2, rfl, g1, z1⟩ := id z.pop
  obtain ⟨a3, a4, rfl, g2, z2⟩ := id z1.pop
  have d1 := sl_dq g1
  have d2 := sl_dq g2
  cases (show Dq _ _ (PyData.int t) from d2)
  cases (show Dq _ _ (PyData.tuple (u.items.map Datum.toD)) from d1) with
  | @tup l vs _ hH hd =>
    have ev : vs = u.items.map V.int := dq_intsJ hd
    subst ev
    refine ⟨l, _, rfl, .inr (.inl (.inl (z.sub _ _ hH))), rfl, flat_ints _, ?_⟩
    rw [if_neg (by decide), inV_ints]
    exact q _ _ (z1.sta.drop.push fun _ _ => sl_bl _)
theorem jt_inTI {t : Int} {u : PySem.W.Tup Int} (ha : JE X B S a S1 (.val t)) (hb : JE X B S1 b S2 (.val u)) (hm : behindInMarks .In b = false := by rfl) : JT X B S (.Compare a [.In] [b] pos) S2 (decide (t ∈ u.items)) := jt_cmp op_in_seq ha hb o2_inTI hm
theorem je_lenTI {q : Pos} {u : PySem.W.Tup Int} (hm : X.mg "len" = none) (ha : JE X B S e S1 (.val u)) (hg : Gl X "len" := by rfl) (hst : starEach [e] X.env = (false, eval e X.env) :: starEach [] X.env := by rfl) : JE X B S (.Call (.Name "len" q) [e] [] pos) S1 (.val (u.items.length : Int)) :=
  je_lenT (ds := u.items.map Datum.toD) hm ha rfl (by rw [List.length_map]) hg hst
end
end J
namespace Gk09
open PySem PySem.Spec PyProof.Rows L2
def m_law_deck_b0 (s2 : ((List Int) × Int)) (x4 : Int) : Option ((List Int) × Int) :=
  (some ((((s2.2 * 1000003) + x4) % 2305843009213693951) : Int)).bind fun x9 => ((if (decide (1000000000000000000 ≤ (if x4 < 0 then -x4 else x4))) = true then ((J.insG s2.1 0 ((if x4 < 0 then -x4 else x4) - 1000000000000000000)).bind fun x12 => some x12) else ( some s2.1) : Option (List Int))).bind fun s10 => some (s10, x9)
def m_law_deck (a0 : List Int) : Option ((List Int) × (Int × Int)) :=
  (J.forM (m_law_deck_b0) a0 (([] : List Int), 11)).bind fun s13 => some (s13.1, (s13.2, 0))
def m_law_take_t0 (s2 : (List Int)) : Option Bool :=
  (J.andM (decide (s2 ≠ ([] : List Int))) ((J.gx s2 (-1)).bind fun x4 => some (decide (x4 < 2)))).bind fun x5 => some x5
def m_law_take_w1 (s2 : (List Int)) : Option (List Int) :=
  (J.lastG s2).bind fun x6 => some x6.2
def m_law_take (a1 : Int) (a0_0 : (List Int)) (a0_1 : Int) (a0_2 : Int) : Option (Int × ((List Int) × Int)) :=
  (J.whileM (m_law_take_t0) (m_law_take_w1) 1000000 a0_0).bind fun s7 => if (decide (s7 ≠ ([] : List Int))) = true then ((J.gx s7 (-1)).bind fun x10 => (J.modG x10 a1).bind fun x11 => (J.gx s7 (-1)).bind fun x13 => (J.divG x13 a1).bind fun x14 => (J.stx s7 (-1) x14).bind fun x15 => some (x11, (x15, a0_2))) else ( (J.powG ((a0_2 + 1) + 5) 3).bind fun x16 => (J.mulG (a0_1 + 40503) x16).bind fun x17 => (some ((x17 + (69621 * (a0_2 + 1))) : Int)).bind fun x18 => (J.powG (x18 % 2305843009213693951) 3).bind fun x19 => (J.modG ((x19 % 1000000007) / 64) a1).bind fun x20 => some (x20, (s7, (a0_2 + 1))))
def m_law_pool_b0 (a0_1 : Int) (x3 : (Int × ((List Int) × Int))) (s9 : ((List Int) × (Int × (List Int)))) (x11 : Int) : Option ((List Int) × (Int × (List Int))) :=
  (m_law_take (1000000000 + 1) s9.1 a0_1 s9.2.1).bind fun x16 => (J.gx ([x11, (1000000000 - (3 * x11)), x16.1] : List Int) x3.1).bind fun x17 => ((if (decide (x17 ∉ s9.2.2)) = true then ((J.psh s9.2.2 x17).bind fun x20 => some x20) else ( some s9.2.2) : Option (List Int))).bind fun s18 => some (x16.2.1, (x16.2.2, s18))
def m_law_pool (a0_0 : (List Int)) (a0_1 : Int) (a0_2 : Int) : Option ((List Int) × ((List Int) × Int)) :=
  (m_law_take 6 a0_0 a0_1 a0_2).bind fun x1 => (J.gx ([2, 4, 6, 9, 40, 198] : List Int) x1.1).bind fun x2 => (m_law_take 3 x1.2.1 a0_1 x1.2.2).bind fun x3 => (m_law_take x2 x3.2.1 a0_1 x3.2.2).bind fun x5 => (m_law_take 16 x5.2.1 a0_1 x5.2.2).bind fun x6 => (J.gx ([(2 + x5.1), 1] : List Int) (if (decide (x6.1 = 5)) then (1 : Int) else 0)).bind fun x7 => (J.rngG x7).bind fun x8 => (J.forM (m_law_pool_b0 a0_1 x3) x8 (x6.2.1, (x6.2.2, ([] : List Int)))).bind fun s21 => some (s21.2.2, (s21.1, s21.2.1))
def m_law_trace_b0 (a0_1 : Int) (x1 : ((List Int) × ((List Int) × Int))) (x7 : (Int × ((List Int) × Int))) (s10 : ((List Int) × (Int × ((List Int) × Int)))) (x12 : Int) : Option ((List Int) × (Int × ((List Int) × Int))) :=
  (m_law_take 8 s10.1 a0_1 s10.2.1).bind fun x17 => ((if ((decide (x7.1 = 0)) || (decide (x17.1 = 7))) = true then ((m_law_take ((x1.1).length : Int) x17.2.1 a0_1 x17.2.2).bind fun x20 => some (x20.2.1, (x20.2.2, x20.1))) else (((if ((decide (x7.1 = 1)) || (decide (x17.1 = 6))) = true then ( some (x17.2.1, (x17.2.2, (s10.2.2.2 + 1)))) else (((if (decide (x7.1 = 3)) = true then ((m_law_take 3 x17.2.1 a0_1 x17.2.2).bind fun x25 => (some (((s10.2.2.2 + x25.1) - 1) : Int)).bind fun x26 => some (x25.2.1, (x25.2.2, x26))) else (((if (decide (x17.1 < 3)) = true then ((m_law_take 2 x17.2.1 a0_1 x17.2.2).bind fun x29 => some (x29.2.1, (x29.2.2, (s10.2.2.2 + x29.1)))) else ( some (x17.2.1, (x17.2.2, s10.2.2.2))) : Option ((List Int) × (Int × Int)))).bind fun s27 => some (s27.1, (s27.2.1, s27.2.2))) : Option ((List Int) × (Int × Int)))).bind fun s23 => some (s23.1, (s23.2.1, s23.2.2))) : Option ((List Int) × (Int × Int)))).bind fun s21 => some (s21.1, (s21.2.1, s21.2.2))) : Option ((List Int) × (Int × Int)))).bind fun s18 => (J.modG s18.2.2 ((x1.1).length : Int)).bind fun x30 => (J.gx x1.1 x30).bind fun x31 => (J.psh s10.2.2.1 x31).bind fun x32 => some (s18.1, (s18.2.1, (x32, x30)))
def m_law_trace (a1 : Int) (a0_0 : (List Int)) (a0_1 : Int) (a0_2 : Int) : Option ((List Int) × ((List Int) × Int)) :=
  (m_law_pool a0_0 a0_1 a0_2).bind fun x1 => (m_law_take 9 x1.2.1 a0_1 x1.2.2).bind fun x2 => (m_law_take 26 x2.2.1 a0_1 x2.2.2).bind fun x3 => (m_law_take (a1 + 1) x3.2.1 a0_1 x3.2.2).bind fun x4 => (m_law_take 3 x4.2.1 a0_1 x4.2.2).bind fun x5 => (J.gx ([x2.1, x3.1, x4.1] : List Int) x5.1).bind fun x6 => (m_law_take 4 x5.2.1 a0_1 x5.2.2).bind fun x7 => (J.rngG (if x6 < a1 then x6 else a1)).bind fun x9 => (J.forM (m_law_trace_b0 a0_1 x1 x7) x9 (x7.2.1, (x7.2.2, (([] : List Int), 0)))).bind fun s33 => some (s33.2.2.1, (s33.1, s33.2.1))
def m_need_rule (a0 : PySem.Str) : Option Unit :=
   if (decide (a0 ∉ (["first", "last", "clock", "far"] : List PySem.Str))) = true then ( none) else (  some ())
def m_need_room (a0 : Int) : Option Unit :=
   if (decide (a0 < 1)) = true then ( none) else (  some ())
def m_farthest_c0 (a1 : (List Int)) (s1 : Unit) (x3 : Int) : Option (Option Int × Unit) :=
   if (decide (x3 ∉ a1)) = true then  some (some x3, ()) else some (none, ())
def m_farthest_l1 (a1 : (List Int)) (y6 : Int) : Option Int :=
  (J.idxG a1 y6).bind fun x8 => some x8
def m_farthest (a1 : (List Int)) (a0 : (List Int)) : Option Int :=
  (J.lcM (m_farthest_c0 a1) a0 ()).bind fun x4 => if (decide (x4.1 ≠ ([] : List Int))) = true then ((J.minG x4.1).bind fun x5 => some x5) else ( (J.maxBy (m_farthest_l1 a1) a0).bind fun x9 => some x9)
def m_far_walk_b0 (a0 : (List Int)) (a1 : Int) (s3 : ((List Int) × (List (PySem.W.T3 Int PySem.Str (Option Int))))) (x5 : (Int × Int)) : Option ((List Int) × (List (PySem.W.T3 Int PySem.Str (Option Int)))) :=
  ((if (decide (x5.2 ∉ s3.1)) = true then (((if (decide (((s3.1).length : Int) = a1)) = true then ((m_farthest (J.slc a0 (some (x5.1 + 1)) none) s3.1).bind fun x14 => ((some x14)).bind fun x15 => (J.remG s3.1 x15).bind fun x16 => some (x16, (some x14))) else ( some (s3.1, none)) : Option ((List Int) × (Option Int)))).bind fun s12 => (J.psh s12.1 x5.2).bind fun x17 => some (x17, (s12.2, ("fault" : PySem.Str)))) else ( some (s3.1, (none, ("hit" : PySem.Str)))) : Option ((List Int) × ((Option Int) × PySem.Str)))).bind fun s10 => (J.psh s3.2 (PySem.W.T3.mk x5.2 s10.2.2 s10.2.1)).bind fun x18 => some (s10.1, x18)
def m_far_walk (a0 : (List Int)) (a1 : Int) : Option (List (PySem.W.T3 Int PySem.Str (Option Int))) :=
  (J.forM (m_far_walk_b0 a0 a1) (J.enu 0 a0) (([] : List Int), ([] : List (PySem.W.T3 Int PySem.Str (Option Int))))).bind fun s19 => some s19.2
def m_walk (a0 : (List Int)) (a1 : Int) : Option (List (PySem.W.T3 Int PySem.Str (Option Int))) :=
  (m_need_rule ("far" : PySem.Str)).bind fun x1 => (m_need_room a1).bind fun x2 => (m_far_walk a0 a1).bind fun x3 => some x3
def m_faults_c0 (s2 : Unit) (x4 : (PySem.W.T3 Int PySem.Str (Option Int))) : Option (Option Int × Unit) :=
   if (decide (x4.b = ("fault" : PySem.Str))) = true then  some (some x4.a, ()) else some (none, ())
def m_faults (a0 : (List Int)) (a1 : Int) : Option Int :=
  (m_walk a0 a1).bind fun x1 => (J.lcM (m_faults_c0) x1 ()).bind fun x5 => some ((x5.1).length : Int)
def m_fewest (a0 : (List Int)) (a1 : Int) : Option Int :=
  (m_faults a0 a1).bind fun x1 => some x1
def m_law_fewest_b0 (s19 : (List (J.DU.P3 × Int))) (x21 : ((PySem.W.Tup Int) × Int)) : Option (List (J.DU.P3 × Int)) :=
  (some ((if ((J.DU.tget s19 x21.1).getD x21.2) < x21.2 then ((J.DU.tget s19 x21.1).getD x21.2) else x21.2) : Int)).bind fun x26 => (J.DU.tputG s19 x21.1 x26).bind fun x27 => some x27
def m_law_fewest_b1 (s32 : (List (J.DU.P3 × Int))) (x34 : ((PySem.W.Tup Int) × Int)) : Option (List (J.DU.P3 × Int)) :=
  (some ((if ((J.DU.tget s32 x34.1).getD x34.2) < x34.2 then ((J.DU.tget s32 x34.1).getD x34.2) else x34.2) : Int)).bind fun x39 => (J.DU.tputG s32 x34.1 x39).bind fun x40 => some x40
def m_law_fewest_c2 (x45 : Int) (s50 : Unit) (x52 : Int) : Option (Option Int × Unit) :=
   if (decide (x52 ≠ x45)) = true then  some (some x52, ()) else some (none, ())
def m_law_fewest_b3 (s2 : (List (J.DU.P3 × Int))) (x4 : Int) (x12 : (PySem.W.Tup Int)) (s43 : (List ((PySem.W.Tup Int) × Int))) (x45 : Int) : Option (List ((PySem.W.Tup Int) × Int)) :=
  (J.lcM (m_law_fewest_c2 x45) (x12).items ()).bind fun x53 => (some ((PySem.W.Tup.mk (x53.1 : List Int)) : (PySem.W.Tup Int))).bind fun x54 => (J.catU x54 (PySem.W.Tup.mk ([x4] : List Int))).bind fun x55 => (J.DU.tget (s2 : (List (J.DU.P3 × Int))) x12).bind fun x56 => (J.psh s43 ((PySem.W.Tup.mk ((J.sortI (x55).items) : List Int)), (x56 + 1))).bind fun x57 => some x57
def m_law_fewest_b4 (s59 : (List (J.DU.P3 × Int))) (x61 : ((PySem.W.Tup Int) × Int)) : Option (List (J.DU.P3 × Int)) :=
  (some ((if ((J.DU.tget s59 x61.1).getD x61.2) < x61.2 then ((J.DU.tget s59 x61.1).getD x61.2) else x61.2) : Int)).bind fun x66 => (J.DU.tputG s59 x61.1 x66).bind fun x67 => some x67
def m_law_fewest_b5 (a1 : Int) (s2 : (List (J.DU.P3 × Int))) (x4 : Int) (s10 : (List (J.DU.P3 × Int))) (x12 : (PySem.W.Tup Int)) : Option (List (J.DU.P3 × Int)) :=
   if (decide (x4 ∈ (x12).items)) = true then ((J.DU.tget (s2 : (List (J.DU.P3 × Int))) x12).bind fun x17 => (J.forM (m_law_fewest_b0) ([(x12, x17)] : List ((PySem.W.Tup Int) × Int)) s10).bind fun s28 => some s28) else ( if (decide (((x12).items.length : Int) < a1)) = true then ((J.catU x12 (PySem.W.Tup.mk ([x4] : List Int))).bind fun x29 => (J.DU.tget (s2 : (List (J.DU.P3 × Int))) x12).bind fun x30 =>  (J.forM (m_law_fewest_b1) ([((PySem.W.Tup.mk ((J.sortI (x29).items) : List Int)), (x30 + 1))] : List ((PySem.W.Tup Int) × Int)) s10).bind fun s41 => some s41) else ((J.forM (m_law_fewest_b3 s2 x4 x12) (x12).items ([] : List ((PySem.W.Tup Int) × Int))).bind fun s58 =>  (J.forM (m_law_fewest_b4) s58 s10).bind fun s68 => some s68))
def m_law_fewest_b6 (a1 : Int) (s2 : (List (J.DU.P3 × Int))) (x4 : Int) : Option (List (J.DU.P3 × Int)) :=
  (J.forM (m_law_fewest_b5 a1 s2 x4) ((s2 : (List (J.DU.P3 × Int))).map (·.1)) ([] : List (J.DU.P3 × Int))).bind fun s69 => some s69
def m_law_fewest (a0 : (List Int)) (a1 : Int) : Option Int :=
  (J.forM (m_law_fewest_b6 a1) a0 ([((PySem.W.Tup.mk [] : PySem.W.Tup Int), 0)] : List (J.DU.P3 × Int))).bind fun s70 => (J.minG ((s70 : (List (J.DU.P3 × Int))).map (·.2))).bind fun x71 => some x71
def m_law_c0 (x12 : List Int) (s13 : Unit) (x15 : Int) : Option (Option Int × Unit) :=
  (J.idxG x12 x15).bind fun x16 => (J.gx x12 (x16 % 6)).bind fun x17 => some (some x17, ())
def m_law_b1 (x1 : ((List Int) × (Int × Int))) (s4 : ((List Int) × Int)) (x6 : Int) : Option (J.Lp ((List Int) × Int) Bool) :=
  (m_law_trace 200 s4.1 x1.2.1 s4.2).bind fun x11 => (J.setG x11.1).bind fun x12 => (J.lcM (m_law_c0 x12) x11.1 ()).bind fun x18 => (m_law_take 4 x11.2.1 x1.2.1 x11.2.2).bind fun x19 => (m_fewest x18.1 (1 + x19.1)).bind fun x20 => (J.orM false ((m_law_fewest x18.1 (1 + x19.1)).bind fun x21 => some ((decide (x20 ≠ x21)) || (decide (x18.1 ≠ x18.1))))).bind fun x22 => if x22 = true then ( some (.rt false)) else ( (m_fewest x18.1 (1 + x19.1)).bind fun x23 => if (decide (x23 ≠ x20)) = true then ( some (.rt false)) else (  some (.nx (x19.2.1, x19.2.2))))
def m_law (a0 : List Int) : Option Bool :=
  (m_law_deck a0).bind fun x1 => (J.rngG (2 + (if ((a0).length : Int) < 2 then ((a0).length : Int) else 2))).bind fun x3 => (J.forL (m_law_b1 x1) x3 (x1.1, x1.2.2)).bind fun o25 => Sum.elim (fun s24 =>  some true) (fun r => some r) o25
open J.Slot renaming val → sV9, own → sO9, any → sA9, v → sR9
open J.Cel renaming lst → cL9, ins → cI9, dk → cD9
open PySem renaming Str → St9
def top (i : Nat) : Stmt := PySem.Challenge.pw_pagerooms_k09_fewest_faults.main.body.getD i (.Pass ⟨0, 0, 0, 0⟩)
abbrev s__law_deck : Stmt := top 18
abbrev s__law_take : Stmt := top 19
abbrev s__law_pool : Stmt := top 20
abbrev s__law_trace : Stmt := top 21
abbrev s_need_rule : Stmt := top 6
abbrev s_need_room : Stmt := top 7
abbrev s_farthest : Stmt := top 11
abbrev s_far_walk : Stmt := top 12
abbrev s_walk : Stmt := top 13
abbrev s_faults : Stmt := top 14
abbrev s_fewest : Stmt := top 16
abbrev s__law_fewest : Stmt := top 22
abbrev s_law : Stmt := top 23
abbrev FnP (K : PySem.W.Frag) (x : Str) (st : Stmt) (f : Addr) (fd : FuncData) : Prop := FunD K x x (defArgs st) (defBody st) (defScope st) [] [] f fd
theorem sc__law_deck : FnScope ["script", "great", "fold", "cell"] ["script"] (defScope s__law_deck) := ⟨rfl, rfl, rfl, by decide +kernel, rfl, by decide +kernel, by decide +kernel⟩
theorem sc__law_take : FnScope ["deck", "many", "k", "mixed", "drawn"] ["deck", "many"] (defScope s__law_take) := ⟨rfl, rfl, rfl, by decide +kernel, rfl, by decide +kernel, by decide +kernel⟩
theorem sc__law_pool : FnScope ["deck", "many", "way", "found", "k", "page"] ["deck"] (defScope s__law_pool) := ⟨rfl, rfl, rfl, by decide +kernel, rfl, by decide +kernel, by decide +kernel⟩
theorem sc__law_trace : FnScope ["deck", "most", "pool", "size", "way", "at", "found", "k", "pick"] ["deck", "most"] (defScope s__law_trace) := ⟨rfl, rfl, rfl, by decide +kernel, rfl, by decide +kernel, by decide +kernel⟩
theorem sc_need_rule : FnScope ["rule", "rules"] ["rule", "rules"] (defScope s_need_rule) := ⟨rfl, rfl, rfl, by decide +kernel, rfl, by decide +kernel, by decide +kernel⟩
theorem sc_need_room : FnScope ["room"] ["room"] (defScope s_need_room) := ⟨rfl, rfl, rfl, by decide +kernel, rfl, by decide +kernel, by decide +kernel⟩
theorem sc_farthest : FnScope ["pages", "later", "never", "page"] ["pages", "later"] (defScope s_farthest) := ⟨rfl, rfl, rfl, by decide +kernel, rfl, by decide +kernel, by decide +kernel⟩
theorem sc_far_walk : FnScope ["trace", "room", "pages", "found", "number", "page", "gone", "word"] ["trace", "room"] (defScope s_far_walk) := ⟨rfl, rfl, rfl, by decide +kernel, rfl, by decide +kernel, by decide +kernel⟩
theorem sc_walk : FnScope ["trace", "room", "rule", "keeper", "page"] ["trace", "room", "rule"] (defScope s_walk) := ⟨rfl, rfl, rfl, by decide +kernel, rfl, by decide +kernel, by decide +kernel⟩
theorem sc_faults : FnScope ["trace", "room", "rule", "page", "word", "gone"] ["trace", "room", "rule"] (defScope s_faults) := ⟨rfl, rfl, rfl, by decide +kernel, rfl, by decide +kernel, by decide +kernel⟩
theorem sc_fewest : FnScope ["trace", "room"] ["trace", "room"] (defScope s_fewest) := ⟨rfl, rfl, rfl, by decide +kernel, rfl, by decide +kernel, by decide +kernel⟩
theorem sc__law_fewest : FnScope ["line", "size", "sets", "one", "behind", "held", "some", "there", "many", "gone", "others", "other"] ["line", "size"] (defScope s__law_fewest) := ⟨rfl, rfl, rfl, by decide +kernel, rfl, by decide +kernel, by decide +kernel⟩
theorem sc_law : FnScope ["script", "deck", "k", "line", "pool", "size", "handed", "told", "one"] ["script"] (defScope s_law) := ⟨rfl, rfl, rfl, by decide +kernel, rfl, by decide +kernel, by decide +kernel⟩
structure Wd (K : PySem.W.Frag) (mg : Str → Option Value) where
  t_RULES : Addr
  gT_RULES : mg "RULES" = some (.ref t_RULES)
  tT_RULES : ∀ H, SqT K H t_RULES ((["first", "last", "clock", "far"] : List Str).map V.str)
  a__law_deck : Addr
  d__law_deck : FuncData
  F__law_deck : FnP K "_law_deck" s__law_deck a__law_deck d__law_deck
  g__law_deck : mg "_law_deck" = some (.ref a__law_deck)
  b__law_deck : Binds K d__law_deck ["script"] []
  a__law_take : Addr
  d__law_take : FuncData
  F__law_take : FnP K "_law_take" s__law_take a__law_take d__law_take
  g__law_take : mg "_law_take" = some (.ref a__law_take)
  b__law_take : Binds K d__law_take ["deck", "many"] []
  a__law_pool : Addr
  d__law_pool : FuncData
  F__law_pool : FnP K "_law_pool" s__law_pool a__law_pool d__law_pool
  g__law_pool : mg "_law_pool" = some (.ref a__law_pool)
  b__law_pool : Binds K d__law_pool ["deck"] []
  a__law_trace : Addr
  d__law_trace : FuncData
  F__law_trace : FnP K "_law_trace" s__law_trace a__law_trace d__law_trace
  g__law_trace : mg "_law_trace" = some (.ref a__law_trace)
  b__law_trace : Binds K d__law_trace ["deck", "most"] []
  a_need_rule : Addr
  d_need_rule : FuncData
  F_need_rule : FnP K "need_rule" s_need_rule a_need_rule d_need_rule
  g_need_rule : mg "need_rule" = some (.ref a_need_rule)
  b_need_rule : Binds K d_need_rule ["rule", "rules"] []
  a_need_room : Addr
  d_need_room : FuncData
  F_need_room : FnP K "need_room" s_need_room a_need_room d_need_room
  g_need_room : mg "need_room" = some (.ref a_need_room)
  b_need_room : Binds K d_need_room ["room"] []
  a_farthest : Addr
  d_farthest : FuncData
  F_farthest : FnP K "farthest" s_farthest a_farthest d_farthest
  g_farthest : mg "farthest" = some (.ref a_farthest)
  b_farthest : Binds K d_farthest ["pages", "later"] []
  a_far_walk : Addr
  d_far_walk : FuncData
  F_far_walk : FnP K "far_walk" s_far_walk a_far_walk d_far_walk
  g_far_walk : mg "far_walk" = some (.ref a_far_walk)
  b_far_walk : Binds K d_far_walk ["trace", "room"] []
  a_walk : Addr
  d_walk : FuncData
  F_walk : FunD K "walk" "walk" (defArgs s_walk) (defBody s_walk) (defScope s_walk) [] [("rule", V.str "last")] a_walk d_walk
  g_walk : mg "walk" = some (.ref a_walk)
  a_faults : Addr
  d_faults : FuncData
  F_faults : FunD K "faults" "faults" (defArgs s_faults) (defBody s_faults) (defScope s_faults) [] [("rule", V.str "last")] a_faults d_faults
  g_faults : mg "faults" = some (.ref a_faults)
  a_fewest : Addr
  d_fewest : FuncData
  F_fewest : FnP K "fewest" s_fewest a_fewest d_fewest
  g_fewest : mg "fewest" = some (.ref a_fewest)
  b_fewest : Binds K d_fewest ["trace", "room"] []
  a__law_fewest : Addr
  d__law_fewest : FuncData
  F__law_fewest : FnP K "_law_fewest" s__law_fewest a__law_fewest d__law_fewest
  g__law_fewest : mg "_law_fewest" = some (.ref a__law_fewest)
  b__law_fewest : Binds K d__law_fewest ["line", "size"] []
  a_law : Addr
  d_law : FuncData
  F_law : FnP K "law" s_law a_law d_law
  g_law : mg "law" = some (.ref a_law)
  b_law : Binds K d_law ["script"] []
  cd_farthest : d_farthest.code = .ref (He.cT K ("farthest", none)).1
  l_abs : mg "abs" = none
  l_bool : mg "bool" = none
  l_enumerate : mg "enumerate" = none
  l_int : mg "int" = none
  l_isinstance : mg "isinstance" = none
  l_len : mg "len" = none
  l_list : mg "list" = none
  l_max : mg "max" = none
  l_min : mg "min" = none
  l_range : mg "range" = none
  l_set : mg "set" = none
  l_sorted : mg "sorted" = none
  l_tuple : mg "tuple" = none
class Tbs (K : PySem.W.Frag) (mg : Str → Option Value) (base : Heap) : Prop where
  tb_farthest : LamX.TabB base mg (He.cT K ("farthest", none)).1 (He.cT K ("farthest", none)).2
section
variable {P : Program} {w : World} {K : PySem.W.Frag} {mg : Str → Option Value} {base : Heap} [Tbs K mg base]
def gkb_fewest_0 {α : Type} : List α → List α
  | [a, b] => [b, a]
  | x => x
theorem kb_fewest_0 (W : Wd K mg) : KBn K W.d_fewest ["trace", "room"] 0 ["room", "trace"] (fun _ ws => gkb_fewest_0 ws) (fun _ zs => gkb_fewest_0 zs) :=
  J.kb0 W.F_fewest _ gkb_fewest_0 (fun r => by
      cases r with
      | nil => exact .nil
      | cons r0 r =>
        cases r with
        | nil => exact (.cons r0 .nil)
        | cons r1 r =>
          cases r with
          | nil => exact (.cons r1 (.cons r0 .nil))
          | cons r2 r =>
            exact (.cons r0 (.cons r1 (.cons r2 r))))
    (fun _ _ _ _ _ _ ws hl => match ws, hl with | [a, b], _ => rfl)
theorem kbe_walk_0 (W : Wd K mg) : ∃ mv : List Value, KBn K W.d_walk ["trace", "room", "rule"] 2 ["rule"] (fun us ws => J.pick [0, 1, 2] (us ++ mv ++ ws)) (fun vs zs => J.pick [0, 1, 2] (vs ++ [] ++ zs)) :=
  W.F_walk.kbinds0 2 ["rule"] [] (fun us mv ws => J.pick [0, 1, 2] (us ++ mv ++ ws)) (by nofun) (fun q h => by simpa using h) (fun r1 r2 r3 => J.pick_vals ((r1.append r2).append r3) _) (fun D doc pm an cdv ct us mv ws h1 h2 h3 => by
    match us, mv, ws, h1, h2, h3 with
    | [u0, u1], [], [w0], _, _, _ => exact rfl)
theorem kbe_faults_1 (W : Wd K mg) : ∃ mv : List Value, KBn K W.d_faults ["trace", "room", "rule"] 2 ["rule"] (fun us ws => J.pick [0, 1, 2] (us ++ mv ++ ws)) (fun vs zs => J.pick [0, 1, 2] (vs ++ [] ++ zs)) :=
  W.F_faults.kbinds0 2 ["rule"] [] (fun us mv ws => J.pick [0, 1, 2] (us ++ mv ++ ws)) (by nofun) (fun q h => by simpa using h) (fun r1 r2 r3 => J.pick_vals ((r1.append r2).append r3) _) (fun D doc pm an cdv ct us mv ws h1 h2 h3 => by
    match us, mv, ws, h1, h2, h3 with
    | [u0, u1], [], [w0], _, _, _ => exact rfl)
structure G_law_deck where
  p0 : PySem.Addr
  a0 : List Int
  out : ((List Int) × (Int × Int))
abbrev R_law_deck {K : PySem.W.Frag} {mg : Str → Option Value} (W : Wd K mg) (r : ((List Int) × (Int × Int))) : J.Slot := (sO9 (cL9 [(sO9 (cL9 ((r.1 : List Int).map sV9))), (sV9 (r.2.1 : Int)), (sV9 (r.2.2 : Int))]))
abbrev C_law_deck {K : PySem.W.Frag} {mg : Str → Option Value} (W : Wd K mg) (p0 : PySem.Addr) (a0 : List Int) (r : ((List Int) × (Int × Int))) : List (PySem.Addr × J.Cel) := []
abbrev A_law_deck {K : PySem.W.Frag} {mg : Str → Option Value} (W : Wd K mg) (p0 : PySem.Addr) (a0 : List Int) : List J.Slot := [(sR9 (.ref p0))]
abbrev D_law_deck {K : PySem.W.Frag} {mg : Str → Option Value} (W : Wd K mg) (p0 : PySem.Addr) (a0 : List Int) : List (PySem.Addr × J.Cel) := []
def F_law_deck {K : PySem.W.Frag} {mg : Str → Option Value} (W : Wd K mg)  : J.FS G_law_deck where
  pre := fun g => m_law_deck g.a0 = some g.out
  preG := fun g G => L2.SqL K G g.p0 (g.a0.map V.int)
  args := fun g => A_law_deck W g.p0 g.a0
  cells := fun g => D_law_deck W g.p0 g.a0
  res := fun g => R_law_deck W g.out
  cells' := fun g => C_law_deck W g.p0 g.a0 g.out
theorem ok_law_deck (W : Wd K mg) : FnOk P w K mg base CX0 1 W.a__law_deck W.d__law_deck ["script"] (F_law_deck (W)).sp := by
  refine J.fn_okD (F_law_deck (W)) W.F__law_deck sc__law_deck (fun g => rfl) (fun g => by intro s hs; simp only [F_law_deck, List.mem_cons, List.not_mem_nil, or_false] at hs; rcases hs with rfl <;> first | rfl | exact J.xsl_plain) (fun cdv A outer s H E hr B g h hG => ?_)
  have hN := (sc__law_deck).nd
  obtain ⟨p0, a0, r0⟩ := g
  change m_law_deck a0 = some r0 at h
  unfold m_law_deck at h
  change J.JS _ B (⟨[(sR9 (.ref p0)), sA9, sA9, sA9], []⟩ : J.Stt) _ (J.fend B (F_law_deck (W)) ⟨p0, a0, r0⟩)
  refine J.js_new (hN := hN) 1 (J.je_lstv (xs := ([] : List Int)) J.ja_nil) fun p1 => ?_
  refine J.js_set (hN := hN) 2 J.je_int ?_
  obtain ⟨s13, hs13, h⟩ := J.bndE h
  refine J.js_forE (π := Unit) (f := m_law_deck_b0) (Sf := fun (q3 : Unit) (s2 : ((List Int) × Int)) => (⟨[(sR9 (.ref p0)), (sR9 (.ref p1)), (sV9 (s2.2 : Int)), sA9], [(p1, (cL9 ((s2.1 : List Int).map sV9)))]⟩ : J.Stt)) (Sb := fun (q3 : Unit) (s2 : ((List Int) × Int)) (x4 : Int) => (⟨[(sR9 (.ref p0)), (sR9 (.ref p1)), (sV9 (s2.2 : Int)), (sV9 (x4 : Int))], [(p1, (cL9 ((s2.1 : List Int).map sV9)))]⟩ : J.Stt)) hs13 (J.ji_pre (ns := a0) (J.je_var 0 rfl) hG) (fun _ _ _ _ g => ⟨(), J.le_fgt (sl := [(sR9 (.ref p0)), (sR9 (.ref p1)), (sV9 ((([] : List Int), 11).2 : Int)), sA9]) (cs := [(p1, (cL9 (((([] : List Int), 11).1 : List Int).map sV9)))]) 1 (.keep (.keep (.keep (.drop .nil)))) rfl _ _ _ _ g⟩) (fun _ _ => trivial) (fun q3 s2 x4 => (J.jg_name 3 (hN := hN))) (fun q3 s2 x4 sY _ h => ?_) (fun q3 => ?_)
  · unfold m_law_deck_b0 at h
    change J.JS _ _ (⟨[(sR9 (.ref p0)), (sR9 (.ref p1)), (sV9 (s2.2 : Int)), (sV9 (x4 : Int))], [(p1, (cL9 ((s2.1 : List Int).map sV9)))]⟩ : J.Stt) _ _
    obtain ⟨x9, hx9, h⟩ := J.bndE h
    refine J.js_set (hN := hN) 2 (J.je_let (J.je_mod (J.je_add (J.je_mulR (J.je_var 2 rfl) J.je_int (by decide)) (J.je_var 3 rfl)) J.je_int (by decide)) hx9) ?_
    obtain ⟨s10, hs10, h⟩ := J.bndE h
    refine J.js_ifE (π := Unit) (Sq := fun (q11 : Unit) => (⟨[(sR9 (.ref p0)), (sR9 (.ref p1)), (sV9 (x9 : Int)), (sV9 (x4 : Int))], [(p1, (cL9 ((s10 : List Int).map sV9)))]⟩ : J.Stt)) (J.jt_ge (J.je_abs W.l_abs (J.je_var 3 rfl)) (J.je_powG 18 J.je_int J.je_int (by decide) (show J.powG 10 18 = some 1000000000000000000 by decide +kernel))) (fun hp => ?_) (fun hp => ?_) (fun q11 => ?_)
    · have h := J.ifT hp hs10
      obtain ⟨x12, hx12, h⟩ := J.bndE h
      refine J.js_expr (J.je_insG (xs := s2.1) (t := (((if x4 < 0 then -x4 else x4) - 1000000000000000000) : Int)) 0 (J.je_var 1 rfl) rfl J.je_int (J.je_sub (J.je_abs W.l_abs (J.je_var 3 rfl)) (J.je_powG 18 J.je_int J.je_int (by decide) (show J.powG 10 18 = some 1000000000000000000 by decide +kernel))) rfl hx12) ?_
      have h9 := Option.some.inj h
      subst h9
      exact J.js_loopEnd (Sq := fun (q11 : Unit) (s10 : (List Int)) => (⟨[(sR9 (.ref p0)), (sR9 (.ref p1)), (sV9 (x9 : Int)), (sV9 (x4 : Int))], [(p1, (cL9 ((s10 : List Int).map sV9)))]⟩ : J.Stt)) (s' := x12) 1 () (.keep (.keep (.keep (.keep .nil)))) rfl rfl
    · have h := J.ifF hp hs10
      have h9 := Option.some.inj h
      subst h9
      exact J.js_loopEnd (Sq := fun (q11 : Unit) (s10 : (List Int)) => (⟨[(sR9 (.ref p0)), (sR9 (.ref p1)), (sV9 (x9 : Int)), (sV9 (x4 : Int))], [(p1, (cL9 ((s10 : List Int).map sV9)))]⟩ : J.Stt)) (s' := s2.1) 1 () (.keep (.keep (.keep (.keep .nil)))) rfl rfl
    have h9 := Option.some.inj h
    subst h9
    exact J.js_nil fun T tv σ H g => ⟨(), J.le_fgt (sl := [(sR9 (.ref p0)), (sR9 (.ref p1)), (sV9 ((s10, x9).2 : Int)), sA9]) (cs := [(p1, (cL9 (((s10, x9).1 : List Int).map sV9)))]) 1 (.keep (.keep (.keep (.drop .nil)))) rfl _ _ _ _ g⟩
  change J.JS _ _ (⟨[(sR9 (.ref p0)), (sR9 (.ref p1)), (sV9 (s13.2 : Int)), sA9], [(p1, (cL9 ((s13.1 : List Int).map sV9)))]⟩ : J.Stt) _ _
  have h9 := Option.some.inj h
  subst h9
  exact J.js_ret (J.je_fold 0 0 (J.je_lst (J.ja_cons (J.je_var 1 rfl) (J.ja_cons (J.je_var 2 rfl) (J.ja_cons J.je_int J.ja_nil))) (Nat.le_of_ble_eq_true rfl)) rfl rfl) fun v H o => J.Out.take 0 o
structure G_law_take where
  p0 : PySem.Addr
  a1 : Int
  a0_0 : (List Int)
  a0_1 : Int
  a0_2 : Int
  out : (Int × ((List Int) × Int))
abbrev R_law_take {K : PySem.W.Frag} {mg : Str → Option Value} (W : Wd K mg) (r : (Int × ((List Int) × Int))) : J.Slot := (sV9 (r.1 : Int))
abbrev C_law_take {K : PySem.W.Frag} {mg : Str → Option Value} (W : Wd K mg) (p0 : PySem.Addr) (a1 : Int) (a0_0 : (List Int)) (a0_1 : Int) (a0_2 : Int) (r : (Int × ((List Int) × Int))) : List (PySem.Addr × J.Cel) := [(p0, (cL9 [(sO9 (cL9 ((r.2.1 : List Int).map sV9))), (sV9 (a0_1 : Int)), (sV9 (r.2.2 : Int))]))]
abbrev A_law_take {K : PySem.W.Frag} {mg : Str → Option Value} (W : Wd K mg) (p0 : PySem.Addr) (a1 : Int) (a0_0 : (List Int)) (a0_1 : Int) (a0_2 : Int) : List J.Slot := [(sR9 (.ref p0)), (sV9 (a1 : Int))]
abbrev D_law_take {K : PySem.W.Frag} {mg : Str → Option Value} (W : Wd K mg) (p0 : PySem.Addr) (a1 : Int) (a0_0 : (List Int)) (a0_1 : Int) (a0_2 : Int) : List (PySem.Addr × J.Cel) := [(p0, (cL9 [(sO9 (cL9 ((a0_0 : List Int).map sV9))), (sV9 (a0_1 : Int)), (sV9 (a0_2 : Int))]))]
def F_law_take {K : PySem.W.Frag} {mg : Str → Option Value} (W : Wd K mg)  : J.FS G_law_take where
  pre := fun g => m_law_take g.a1 g.a0_0 g.a0_1 g.a0_2 = some g.out
  preG := fun _ _ => True
  args := fun g => A_law_take W g.p0 g.a1 g.a0_0 g.a0_1 g.a0_2
  cells := fun g => D_law_take W g.p0 g.a1 g.a0_0 g.a0_1 g.a0_2
  res := fun g => R_law_take W g.out
  cells' := fun g => C_law_take W g.p0 g.a1 g.a0_0 g.a0_1 g.a0_2 g.out
theorem ok_law_take (W : Wd K mg) : FnOk P w K mg base CX0 1 W.a__law_take W.d__law_take ["deck", "many"] (F_law_take (W)).sp := by
  refine J.fn_okD (F_law_take (W)) W.F__law_take sc__law_take (fun g => rfl) (fun g => by intro s hs; simp only [F_law_take, List.mem_cons, List.not_mem_nil, or_false] at hs; rcases hs with rfl | rfl <;> first | rfl | exact J.xsl_plain) (fun cdv A outer s H E hr B g h hG => ?_)
  have hN := (sc__law_take).nd
  obtain ⟨p0, a1, a0_0, a0_1, a0_2, r0⟩ := g
  change m_law_take a1 a0_0 a0_1 a0_2 = some r0 at h
  unfold m_law_take at h
  change J.JS _ B (⟨[(sR9 (.ref p0)), (sV9 (a1 : Int)), sA9, sA9, sA9], [(p0, (cL9 [(sO9 (cL9 ((a0_0 : List Int).map sV9))), (sV9 (a0_1 : Int)), (sV9 (a0_2 : Int))]))]⟩ : J.Stt) _ (J.fend B (F_law_take (W)) ⟨p0, a1, a0_0, a0_1, a0_2, r0⟩)
  refine J.js_open 0 0 rfl rfl fun p1 => ?_
  change J.JS _ _ (⟨[(sR9 (.ref p0)), (sV9 (a1 : Int)), sA9, sA9, sA9], [(p0, (cL9 [(sR9 (.ref p1)), (sV9 (a0_1 : Int)), (sV9 (a0_2 : Int))])), (p1, (cL9 ((a0_0 : List Int).map sV9)))]⟩ : J.Stt) _ _
  obtain ⟨s7, hs7, h⟩ := J.bndE h
  refine J.js_whileE (π := Unit) (c := m_law_take_t0) (f := m_law_take_w1) (Sf := fun (q3 : Unit) (s2 : (List Int)) => (⟨[(sR9 (.ref p0)), (sV9 (a1 : Int)), sA9, sA9, sA9], [(p0, (cL9 [(sR9 (.ref p1)), (sV9 (a0_1 : Int)), (sV9 (a0_2 : Int))])), (p1, (cL9 ((s2 : List Int).map sV9)))]⟩ : J.Stt)) hs7 (fun _ _ _ _ g => ⟨(), J.le_fgt (sl := [(sR9 (.ref p0)), (sV9 (a1 : Int)), sA9, sA9, sA9]) (cs := [(p0, (cL9 [(sR9 (.ref p1)), (sV9 (a0_1 : Int)), (sV9 (a0_2 : Int))])), (p1, (cL9 ((a0_0 : List Int).map sV9)))]) 2 (.keep (.keep (.drop (.drop (.drop .nil))))) rfl _ _ _ _ g⟩) (fun q3 s2 p h => ?_) (fun q3 s2 sY _ h => ?_) (fun q3 => ?_)
  · unfold m_law_take_t0 at h
    obtain ⟨x5, hx5, h⟩ := J.bndE h
    have h9 := Option.some.inj h
    subst h9
    exact (J.JW.t (J.jw_andM hx5 (J.jt_ne' (t := (s2 : (List Int))) (r := (([] : List Int) : (List Int))) hr (J.je_ixC (s := (sR9 (.ref p1))) 0 (J.je_var 0 rfl) J.je_int rfl rfl) (J.je_lstv (xs := ([] : List Int)) J.ja_nil) (J.dv_cellL 1 rfl) J.dv_ownL) fun _ r h => by
      obtain ⟨x4, hx4, h⟩ := J.bndE h
      have h9 := Option.some.inj h
      subst h9
      exact (J.jw_and1 (J.jt_lt (J.je_ixv (xs := s2) (J.je_ixC (s := (sR9 (.ref p1))) 0 (J.je_var 0 rfl) J.je_int rfl rfl) (J.je_neg J.je_int) (J.lv_cell' 1 rfl) hx4) J.je_int))))
  · unfold m_law_take_w1 at h
    change J.JS _ _ (⟨[(sR9 (.ref p0)), (sV9 (a1 : Int)), sA9, sA9, sA9], [(p0, (cL9 [(sR9 (.ref p1)), (sV9 (a0_1 : Int)), (sV9 (a0_2 : Int))])), (p1, (cL9 ((s2 : List Int).map sV9)))]⟩ : J.Stt) _ _
    obtain ⟨x6, hx6, h⟩ := J.bndE h
    refine J.js_expr (J.je_lastG (xs := s2) 1 (J.je_ixC (s := (sR9 (.ref p1))) 0 (J.je_var 0 rfl) J.je_int rfl rfl) rfl hx6) ?_
    have h9 := Option.some.inj h
    subst h9
    exact J.js_nil fun T tv σ H g => ⟨(), J.le_fgt (sl := [(sR9 (.ref p0)), (sV9 (a1 : Int)), sA9, sA9, sA9]) (cs := [(p0, (cL9 [(sR9 (.ref p1)), (sV9 (a0_1 : Int)), (sV9 (a0_2 : Int))])), (p1, (cL9 (((x6.2) : List Int).map sV9)))]) 2 (.keep (.keep (.drop (.drop (.drop .nil))))) rfl _ _ _ _ g⟩
  change J.JS _ _ (⟨[(sR9 (.ref p0)), (sV9 (a1 : Int)), sA9, sA9, sA9], [(p0, (cL9 [(sR9 (.ref p1)), (sV9 (a0_1 : Int)), (sV9 (a0_2 : Int))])), (p1, (cL9 ((s7 : List Int).map sV9)))]⟩ : J.Stt) _ _
  refine J.js_fold 0 1 0 1 rfl rfl rfl (by decide) (by nofun) ?_
  change J.JS _ _ (⟨[(sR9 (.ref p0)), (sV9 (a1 : Int)), sA9, sA9, sA9], [(p0, (cL9 [(sO9 (cL9 ((s7 : List Int).map sV9))), (sV9 (a0_1 : Int)), (sV9 (a0_2 : Int))]))]⟩ : J.Stt) _ _
  refine J.js_open 0 0 rfl rfl fun p8 => ?_
  change J.JS _ _ (⟨[(sR9 (.ref p0)), (sV9 (a1 : Int)), sA9, sA9, sA9], [(p0, (cL9 [(sR9 (.ref p8)), (sV9 (a0_1 : Int)), (sV9 (a0_2 : Int))])), (p8, (cL9 ((s7 : List Int).map sV9)))]⟩ : J.Stt) _ _
  refine J.js_if (J.jt_ne' (t := (s7 : (List Int))) (r := (([] : List Int) : (List Int))) hr (J.je_ixC (s := (sR9 (.ref p8))) 0 (J.je_var 0 rfl) J.je_int rfl rfl) (J.je_lstv (xs := ([] : List Int)) J.ja_nil) (J.dv_cellL 1 rfl) J.dv_ownL) (fun hp => ?_) (fun hp => ?_)
  · replace h := J.ifT hp h
    refine J.js_fold 0 1 0 1 rfl rfl rfl (by decide) (by nofun) ?_
    change J.JS _ _ (⟨[(sR9 (.ref p0)), (sV9 (a1 : Int)), sA9, sA9, sA9], [(p0, (cL9 [(sO9 (cL9 ((s7 : List Int).map sV9))), (sV9 (a0_1 : Int)), (sV9 (a0_2 : Int))]))]⟩ : J.Stt) _ _
    refine J.js_open 0 0 rfl rfl fun p9 => ?_
    change J.JS _ _ (⟨[(sR9 (.ref p0)), (sV9 (a1 : Int)), sA9, sA9, sA9], [(p0, (cL9 [(sR9 (.ref p9)), (sV9 (a0_1 : Int)), (sV9 (a0_2 : Int))])), (p9, (cL9 ((s7 : List Int).map sV9)))]⟩ : J.Stt) _ _
    obtain ⟨x10, hx10, h⟩ := J.bndE h
    obtain ⟨x11, hx11, h⟩ := J.bndE h
    refine J.js_set (hN := hN) 4 (J.je_modG (J.je_ixv (xs := s7) (J.je_ixC (s := (sR9 (.ref p9))) 0 (J.je_var 0 rfl) J.je_int rfl rfl) (J.je_neg J.je_int) (J.lv_cell' 1 rfl) hx10) (J.je_var 1 rfl) hx11) ?_
    refine J.js_fold 0 1 0 1 rfl rfl rfl (by decide) (by nofun) ?_
    change J.JS _ _ (⟨[(sR9 (.ref p0)), (sV9 (a1 : Int)), sA9, sA9, (sV9 (x11 : Int))], [(p0, (cL9 [(sO9 (cL9 ((s7 : List Int).map sV9))), (sV9 (a0_1 : Int)), (sV9 (a0_2 : Int))]))]⟩ : J.Stt) _ _
    refine J.js_open 0 0 rfl rfl fun p12 => ?_
    change J.JS _ _ (⟨[(sR9 (.ref p0)), (sV9 (a1 : Int)), sA9, sA9, (sV9 (x11 : Int))], [(p0, (cL9 [(sR9 (.ref p12)), (sV9 (a0_1 : Int)), (sV9 (a0_2 : Int))])), (p12, (cL9 ((s7 : List Int).map sV9)))]⟩ : J.Stt) _ _
    obtain ⟨x13, hx13, h⟩ := J.bndE h
    obtain ⟨x14, hx14, h⟩ := J.bndE h
    obtain ⟨x15, hx15, h⟩ := J.bndE h
    refine J.js_asg (J.je_divG (J.je_ixv (xs := s7) (J.je_ixC (s := (sR9 (.ref p12))) 0 (J.je_var 0 rfl) J.je_int rfl rfl) (J.je_neg J.je_int) (J.lv_cell' 1 rfl) hx13) (J.je_var 1 rfl) hx14) (J.jg_subG (xs := s7) 1 (J.je_ixC (s := (sR9 (.ref p12))) 0 (J.je_var 0 rfl) J.je_int rfl rfl) (J.je_neg J.je_int) rfl hx15) ?_
    refine J.js_fold 0 1 0 1 rfl rfl rfl (by decide) (by nofun) ?_
    change J.JS _ _ (⟨[(sR9 (.ref p0)), (sV9 (a1 : Int)), sA9, sA9, (sV9 (x11 : Int))], [(p0, (cL9 [(sO9 (cL9 ((x15 : List Int).map sV9))), (sV9 (a0_1 : Int)), (sV9 (a0_2 : Int))]))]⟩ : J.Stt) _ _
    have h9 := Option.some.inj h
    subst h9
    exact J.js_ret (J.je_var 4 rfl) fun v H o => J.Out.take 1 o
  · replace h := J.ifF hp h
    refine J.js_fold 0 1 0 1 rfl rfl rfl (by decide) (by nofun) ?_
    change J.JS _ _ (⟨[(sR9 (.ref p0)), (sV9 (a1 : Int)), sA9, sA9, sA9], [(p0, (cL9 [(sO9 (cL9 ((s7 : List Int).map sV9))), (sV9 (a0_1 : Int)), (sV9 (a0_2 : Int))]))]⟩ : J.Stt) _ _
    refine J.js_end ?_
    change J.JS _ _ (⟨[(sR9 (.ref p0)), (sV9 (a1 : Int)), sA9, sA9, sA9], [(p0, (cL9 [(sO9 (cL9 ((s7 : List Int).map sV9))), (sV9 (a0_1 : Int)), (sV9 (a0_2 : Int))]))]⟩ : J.Stt) _ _
    refine J.js_asg (J.je_add (J.je_ixC (s := (sV9 (a0_2 : Int))) 0 (J.je_var 0 rfl) J.je_int rfl rfl) J.je_int) (J.jg_setA 0 2 (J.je_var 0 rfl) J.je_int rfl rfl) ?_
    change J.JS _ _ (⟨[(sR9 (.ref p0)), (sV9 (a1 : Int)), sA9, sA9, sA9], [(p0, (cL9 [(sO9 (cL9 ((s7 : List Int).map sV9))), (sV9 (a0_1 : Int)), (sV9 ((a0_2 + 1) : Int))]))]⟩ : J.Stt) _ _
    refine J.js_set (hN := hN) 2 (J.je_ixC (s := (sV9 ((a0_2 + 1) : Int))) 0 (J.je_var 0 rfl) J.je_int rfl rfl) ?_
    obtain ⟨x16, hx16, h⟩ := J.bndE h
    obtain ⟨x17, hx17, h⟩ := J.bndE h
    obtain ⟨x18, hx18, h⟩ := J.bndE h
    refine J.js_set (hN := hN) 3 (J.je_let (J.je_add (J.je_mulG (J.je_add (J.je_ixC (s := (sV9 (a0_1 : Int))) 0 (J.je_var 0 rfl) J.je_int rfl rfl) J.je_int) (J.je_powG 3 (J.je_add (J.je_var 2 rfl) J.je_int) J.je_int (by decide) hx16) hx17) (J.je_mulL J.je_int (J.je_var 2 rfl) (by decide))) hx18) ?_
    obtain ⟨x19, hx19, h⟩ := J.bndE h
    obtain ⟨x20, hx20, h⟩ := J.bndE h
    have h9 := Option.some.inj h
    subst h9
    exact J.js_ret (J.je_modG (J.je_div (J.je_mod (J.je_powG 3 (J.je_mod (J.je_var 3 rfl) J.je_int (by decide)) J.je_int (by decide) hx19) J.je_int (by decide)) J.je_int (by decide)) (J.je_var 1 rfl) hx20) fun v H o => J.Out.take 1 o
structure G_law_pool where
  p0 : PySem.Addr
  a0_0 : (List Int)
  a0_1 : Int
  a0_2 : Int
  out : ((List Int) × ((List Int) × Int))
abbrev R_law_pool {K : PySem.W.Frag} {mg : Str → Option Value} (W : Wd K mg) (r : ((List Int) × ((List Int) × Int))) : J.Slot := (sO9 (cL9 ((r.1 : List Int).map sV9)))
abbrev C_law_pool {K : PySem.W.Frag} {mg : Str → Option Value} (W : Wd K mg) (p0 : PySem.Addr) (a0_0 : (List Int)) (a0_1 : Int) (a0_2 : Int) (r : ((List Int) × ((List Int) × Int))) : List (PySem.Addr × J.Cel) := [(p0, (cL9 [(sO9 (cL9 ((r.2.1 : List Int).map sV9))), (sV9 (a0_1 : Int)), (sV9 (r.2.2 : Int))]))]
abbrev A_law_pool {K : PySem.W.Frag} {mg : Str → Option Value} (W : Wd K mg) (p0 : PySem.Addr) (a0_0 : (List Int)) (a0_1 : Int) (a0_2 : Int) : List J.Slot := [(sR9 (.ref p0))]
abbrev D_law_pool {K : PySem.W.Frag} {mg : Str → Option Value} (W : Wd K mg) (p0 : PySem.Addr) (a0_0 : (List Int)) (a0_1 : Int) (a0_2 : Int) : List (PySem.Addr × J.Cel) := [(p0, (cL9 [(sO9 (cL9 ((a0_0 : List Int).map sV9))), (sV9 (a0_1 : Int)), (sV9 (a0_2 : Int))]))]
def F_law_pool {K : PySem.W.Frag} {mg : Str → Option Value} (W : Wd K mg)  : J.FS G_law_pool where
  pre := fun g => m_law_pool g.a0_0 g.a0_1 g.a0_2 = some g.out
  preG := fun _ _ => True
  args := fun g => A_law_pool W g.p0 g.a0_0 g.a0_1 g.a0_2
  cells := fun g => D_law_pool W g.p0 g.a0_0 g.a0_1 g.a0_2
  res := fun g => R_law_pool W g.out
  cells' := fun g => C_law_pool W g.p0 g.a0_0 g.a0_1 g.a0_2 g.out
theorem ok_law_pool (W : Wd K mg) : FnOk P w K mg base CX0 2 W.a__law_pool W.d__law_pool ["deck"] (F_law_pool (W)).sp := by
  refine J.fn_okD (F_law_pool (W)) W.F__law_pool sc__law_pool (fun g => rfl) (fun g => by intro s hs; simp only [F_law_pool, List.mem_cons, List.not_mem_nil, or_false] at hs; rcases hs with rfl <;> first | rfl | exact J.xsl_plain) (fun cdv A outer s H E hr B g h hG => ?_)
  have hN := (sc__law_pool).nd
  obtain ⟨p0, a0_0, a0_1, a0_2, r0⟩ := g
  change m_law_pool a0_0 a0_1 a0_2 = some r0 at h
  unfold m_law_pool at h
  change J.JS _ B (⟨[(sR9 (.ref p0)), sA9, sA9, sA9, sA9, sA9], [(p0, (cL9 [(sO9 (cL9 ((a0_0 : List Int).map sV9))), (sV9 (a0_1 : Int)), (sV9 (a0_2 : Int))]))]⟩ : J.Stt) _ (J.fend B (F_law_pool (W)) ⟨p0, a0_0, a0_1, a0_2, r0⟩)
  obtain ⟨x1, hx1, h⟩ := J.bndE h
  obtain ⟨x2, hx2, h⟩ := J.bndE h
  refine J.js_set (hN := hN) 1 (J.je_ixv (xs := ([2, 4, 6, 9, 40, 198] : List Int)) (J.je_lstv (xs := ([2, 4, 6, 9, 40, 198] : List Int)) (J.ja_cons J.je_int (J.ja_cons J.je_int (J.ja_cons J.je_int (J.ja_cons J.je_int (J.ja_cons J.je_int (J.ja_cons J.je_int J.ja_nil))))))) (J.je_call (f := F_law_take W) (ok_law_take (base := base) W) hr (by decide) W.g__law_take W.F__law_take.kp W.b__law_take (J.ja_cons (J.je_var 0 rfl) (J.ja_cons J.je_int J.ja_nil)) (g := (⟨p0, 6, a0_0, a0_1, a0_2, x1⟩ : G_law_take)) hx1 rfl (.cons 0 rfl (by nofun) .nil) (.cons 0 rfl .nil) (hG := fun G e => trivial)) J.lv_own' hx2) ?_
  change J.JS _ _ (⟨[(sR9 (.ref p0)), (sV9 (x2 : Int)), sA9, sA9, sA9, sA9], [(p0, (cL9 [(sO9 (cL9 ((x1.2.1 : List Int).map sV9))), (sV9 (a0_1 : Int)), (sV9 (x1.2.2 : Int))]))]⟩ : J.Stt) _ _
  obtain ⟨x3, hx3, h⟩ := J.bndE h
  refine J.js_set (hN := hN) 2 (J.je_call (f := F_law_take W) (ok_law_take (base := base) W) hr (by decide) W.g__law_take W.F__law_take.kp W.b__law_take (J.ja_cons (J.je_var 0 rfl) (J.ja_cons J.je_int J.ja_nil)) (g := (⟨p0, 3, x1.2.1, a0_1, x1.2.2, x3⟩ : G_law_take)) hx3 rfl (.cons 0 rfl (by nofun) .nil) (.cons 0 rfl .nil) (hG := fun G e => trivial)) ?_
  change J.JS _ _ (⟨[(sR9 (.ref p0)), (sV9 (x2 : Int)), (sV9 (x3.1 : Int)), sA9, sA9, sA9], [(p0, (cL9 [(sO9 (cL9 ((x3.2.1 : List Int).map sV9))), (sV9 (a0_1 : Int)), (sV9 (x3.2.2 : Int))]))]⟩ : J.Stt) _ _
  refine J.js_new (hN := hN) 3 (J.je_lstv (xs := ([] : List Int)) J.ja_nil) fun p4 => ?_
  obtain ⟨x5, hx5, h⟩ := J.bndE h
  obtain ⟨x6, hx6, h⟩ := J.bndE h
  obtain ⟨x7, hx7, h⟩ := J.bndE h
  obtain ⟨x8, hx8, h⟩ := J.bndE h
  obtain ⟨s21, hs21, h⟩ := J.bndE h
  refine J.js_forE (π := Unit) (f := m_law_pool_b0 a0_1 x3) (Sf := fun (q10 : Unit) (s9 : ((List Int) × (Int × (List Int)))) => (⟨[(sR9 (.ref p0)), (sV9 (x2 : Int)), (sV9 (x3.1 : Int)), (sR9 (.ref p4)), sA9, sA9], [(p0, (cL9 [(sO9 (cL9 ((s9.1 : List Int).map sV9))), (sV9 (a0_1 : Int)), (sV9 (s9.2.1 : Int))])), (p4, (cL9 ((s9.2.2 : List Int).map sV9)))]⟩ : J.Stt)) (Sb := fun (q10 : Unit) (s9 : ((List Int) × (Int × (List Int)))) (x11 : Int) => (⟨[(sR9 (.ref p0)), (sV9 (x2 : Int)), (sV9 (x3.1 : Int)), (sR9 (.ref p4)), (sV9 (x11 : Int)), sA9], [(p0, (cL9 [(sO9 (cL9 ((s9.1 : List Int).map sV9))), (sV9 (a0_1 : Int)), (sV9 (s9.2.1 : Int))])), (p4, (cL9 ((s9.2.2 : List Int).map sV9)))]⟩ : J.Stt)) hs21 (J.ji_rngG W.l_range (J.je_ixv (xs := ([(2 + x5.1), 1] : List Int)) (J.je_lstv (xs := ([(2 + x5.1), 1] : List Int)) (J.ja_cons (J.je_add J.je_int (J.je_call (f := F_law_take W) (ok_law_take (base := base) W) hr (by decide) W.g__law_take W.F__law_take.kp W.b__law_take (J.ja_cons (J.je_var 0 rfl) (J.ja_cons (J.je_var 1 rfl) J.ja_nil)) (g := (⟨p0, x2, x3.2.1, a0_1, x3.2.2, x5⟩ : G_law_take)) hx5 rfl (.cons 0 rfl (by nofun) .nil) (.cons 0 rfl .nil) (hG := fun G e => trivial))) (J.ja_cons J.je_int J.ja_nil))) (J.je_intB W.l_int (J.jc_eq (t := (x6.1 : Int)) (r := (5 : Int)) hr (J.je_call (f := F_law_take W) (ok_law_take (base := base) W) hr (by decide) W.g__law_take W.F__law_take.kp W.b__law_take (J.ja_cons (J.je_var 0 rfl) (J.ja_cons J.je_int J.ja_nil)) (g := (⟨p0, 16, x5.2.1, a0_1, x5.2.2, x6⟩ : G_law_take)) hx6 rfl (.cons 0 rfl (by nofun) .nil) (.cons 0 rfl .nil) (hG := fun G e => trivial)) J.je_int J.dv_val J.dv_val)) J.lv_own' hx7) hx8) (fun _ _ _ _ g => ⟨(), J.le_fgt (sl := [(sR9 (.ref p0)), (sV9 (x2 : Int)), (sV9 (x3.1 : Int)), (sR9 (.ref p4)), sA9, sA9]) (cs := [(p0, (cL9 [(sO9 (cL9 (((x6.2.1, (x6.2.2, ([] : List Int))).1 : List Int).map sV9))), (sV9 (a0_1 : Int)), (sV9 ((x6.2.1, (x6.2.2, ([] : List Int))).2.1 : Int))])), (p4, (cL9 (((x6.2.1, (x6.2.2, ([] : List Int))).2.2 : List Int).map sV9)))]) 2 (.keep (.keep (.keep (.keep (.drop (.drop .nil)))))) rfl _ _ _ _ g⟩) (fun _ _ => trivial) (fun q10 s9 x11 => (J.jg_name 4 (hN := hN))) (fun q10 s9 x11 sY _ h => ?_) (fun q10 => ?_)
  · unfold m_law_pool_b0 at h
    change J.JS _ _ (⟨[(sR9 (.ref p0)), (sV9 (x2 : Int)), (sV9 (x3.1 : Int)), (sR9 (.ref p4)), (sV9 (x11 : Int)), sA9], [(p0, (cL9 [(sO9 (cL9 ((s9.1 : List Int).map sV9))), (sV9 (a0_1 : Int)), (sV9 (s9.2.1 : Int))])), (p4, (cL9 ((s9.2.2 : List Int).map sV9)))]⟩ : J.Stt) _ _
    obtain ⟨x16, hx16, h⟩ := J.bndE h
    obtain ⟨x17, hx17, h⟩ := J.bndE h
    refine J.js_set (hN := hN) 5 (J.je_ixv (xs := ([x11, (1000000000 - (3 * x11)), x16.1] : List Int)) (J.je_lstv (xs := ([x11, (1000000000 - (3 * x11)), x16.1] : List Int)) (J.ja_cons (J.je_var 4 rfl) (J.ja_cons (J.je_sub (J.je_powG 9 J.je_int J.je_int (by decide) (show J.powG 10 9 = some 1000000000 by decide +kernel)) (J.je_mulL J.je_int (J.je_var 4 rfl) (by decide))) (J.ja_cons (J.je_call (f := F_law_take W) (ok_law_take (base := base) W) hr (by decide) W.g__law_take W.F__law_take.kp W.b__law_take (J.ja_cons (J.je_var 0 rfl) (J.ja_cons (J.je_add (J.je_powG 9 J.je_int J.je_int (by decide) (show J.powG 10 9 = some 1000000000 by decide +kernel)) J.je_int) J.ja_nil)) (g := (⟨p0, (1000000000 + 1), s9.1, a0_1, s9.2.1, x16⟩ : G_law_take)) hx16 rfl (.cons 0 rfl (by nofun) .nil) (.cons 0 rfl .nil) (hG := fun G e => trivial)) J.ja_nil)))) (J.je_var 2 rfl) J.lv_own' hx17) ?_
    change J.JS _ _ (⟨[(sR9 (.ref p0)), (sV9 (x2 : Int)), (sV9 (x3.1 : Int)), (sR9 (.ref p4)), (sV9 (x11 : Int)), (sV9 (x17 : Int))], [(p0, (cL9 [(sO9 (cL9 ((x16.2.1 : List Int).map sV9))), (sV9 (a0_1 : Int)), (sV9 (x16.2.2 : Int))])), (p4, (cL9 ((s9.2.2 : List Int).map sV9)))]⟩ : J.Stt) _ _
    obtain ⟨s18, hs18, h⟩ := J.bndE h
    refine J.js_ifE (π := Unit) (Sq := fun (q19 : Unit) => (⟨[(sR9 (.ref p0)), (sV9 (x2 : Int)), (sV9 (x3.1 : Int)), (sR9 (.ref p4)), (sV9 (x11 : Int)), (sV9 (x17 : Int))], [(p0, (cL9 [(sO9 (cL9 ((x16.2.1 : List Int).map sV9))), (sV9 (a0_1 : Int)), (sV9 (x16.2.2 : Int))])), (p4, (cL9 ((s18 : List Int).map sV9)))]⟩ : J.Stt)) (J.jt_notIn (t := (x17 : Int)) (xs := s9.2.2) hr (J.je_var 5 rfl) (J.je_var 3 rfl) J.dv_val (J.lv_cell' 1 rfl)) (fun hp => ?_) (fun hp => ?_) (fun q19 => ?_)
    · have h := J.ifT hp hs18
      obtain ⟨x20, hx20, h⟩ := J.bndE h
      refine J.js_expr (J.je_appG (xs := s9.2.2) (t := (x17 : Int)) 1 (J.je_var 3 rfl) rfl (J.je_var 5 rfl) rfl hx20) ?_
      have h9 := Option.some.inj h
      subst h9
      exact J.js_loopEnd (Sq := fun (q19 : Unit) (s18 : (List Int)) => (⟨[(sR9 (.ref p0)), (sV9 (x2 : Int)), (sV9 (x3.1 : Int)), (sR9 (.ref p4)), (sV9 (x11 : Int)), (sV9 (x17 : Int))], [(p0, (cL9 [(sO9 (cL9 ((x16.2.1 : List Int).map sV9))), (sV9 (a0_1 : Int)), (sV9 (x16.2.2 : Int))])), (p4, (cL9 ((s18 : List Int).map sV9)))]⟩ : J.Stt)) (s' := x20) 2 () (.keep (.keep (.keep (.keep (.keep (.keep .nil)))))) rfl rfl
    · have h := J.ifF hp hs18
      have h9 := Option.some.inj h
      subst h9
      exact J.js_loopEnd (Sq := fun (q19 : Unit) (s18 : (List Int)) => (⟨[(sR9 (.ref p0)), (sV9 (x2 : Int)), (sV9 (x3.1 : Int)), (sR9 (.ref p4)), (sV9 (x11 : Int)), (sV9 (x17 : Int))], [(p0, (cL9 [(sO9 (cL9 ((x16.2.1 : List Int).map sV9))), (sV9 (a0_1 : Int)), (sV9 (x16.2.2 : Int))])), (p4, (cL9 ((s18 : List Int).map sV9)))]⟩ : J.Stt)) (s' := s9.2.2) 2 () (.keep (.keep (.keep (.keep (.keep (.keep .nil)))))) rfl rfl
    have h9 := Option.some.inj h
    subst h9
    exact J.js_nil fun T tv σ H g => ⟨(), J.le_fgt (sl := [(sR9 (.ref p0)), (sV9 (x2 : Int)), (sV9 (x3.1 : Int)), (sR9 (.ref p4)), sA9, sA9]) (cs := [(p0, (cL9 [(sO9 (cL9 (((x16.2.1, (x16.2.2, s18)).1 : List Int).map sV9))), (sV9 (a0_1 : Int)), (sV9 ((x16.2.1, (x16.2.2, s18)).2.1 : Int))])), (p4, (cL9 (((x16.2.1, (x16.2.2, s18)).2.2 : List Int).map sV9)))]) 2 (.keep (.keep (.keep (.keep (.drop (.drop .nil)))))) rfl _ _ _ _ g⟩
  change J.JS _ _ (⟨[(sR9 (.ref p0)), (sV9 (x2 : Int)), (sV9 (x3.1 : Int)), (sR9 (.ref p4)), sA9, sA9], [(p0, (cL9 [(sO9 (cL9 ((s21.1 : List Int).map sV9))), (sV9 (a0_1 : Int)), (sV9 (s21.2.1 : Int))])), (p4, (cL9 ((s21.2.2 : List Int).map sV9)))]⟩ : J.Stt) _ _
  have h9 := Option.some.inj h
  subst h9
  exact J.js_ret (J.je_own 1 (J.je_var 3 rfl) rfl) fun v H o => J.Out.take 1 o
structure G_law_trace where
  p0 : PySem.Addr
  a1 : Int
  a0_0 : (List Int)
  a0_1 : Int
  a0_2 : Int
  out : ((List Int) × ((List Int) × Int))
abbrev R_law_trace {K : PySem.W.Frag} {mg : Str → Option Value} (W : Wd K mg) (r : ((List Int) × ((List Int) × Int))) : J.Slot := (sO9 (cL9 ((r.1 : List Int).map sV9)))
abbrev C_law_trace {K : PySem.W.Frag} {mg : Str → Option Value} (W : Wd K mg) (p0 : PySem.Addr) (a1 : Int) (a0_0 : (List Int)) (a0_1 : Int) (a0_2 : Int) (r : ((List Int) × ((List Int) × Int))) : List (PySem.Addr × J.Cel) := [(p0, (cL9 [(sO9 (cL9 ((r.2.1 : List Int).map sV9))), (sV9 (a0_1 : Int)), (sV9 (r.2.2 : Int))]))]
abbrev A_law_trace {K : PySem.W.Frag} {mg : Str → Option Value} (W : Wd K mg) (p0 : PySem.Addr) (a1 : Int) (a0_0 : (List Int)) (a0_1 : Int) (a0_2 : Int) : List J.Slot := [(sR9 (.ref p0)), (sV9 (a1 : Int))]
abbrev D_law_trace {K : PySem.W.Frag} {mg : Str → Option Value} (W : Wd K mg) (p0 : PySem.Addr) (a1 : Int) (a0_0 : (List Int)) (a0_1 : Int) (a0_2 : Int) : List (PySem.Addr × J.Cel) := [(p0, (cL9 [(sO9 (cL9 ((a0_0 : List Int).map sV9))), (sV9 (a0_1 : Int)), (sV9 (a0_2 : Int))]))]
def F_law_trace {K : PySem.W.Frag} {mg : Str → Option Value} (W : Wd K mg)  : J.FS G_law_trace where
  pre := fun g => m_law_trace g.a1 g.a0_0 g.a0_1 g.a0_2 = some g.out
  preG := fun _ _ => True
  args := fun g => A_law_trace W g.p0 g.a1 g.a0_0 g.a0_1 g.a0_2
  cells := fun g => D_law_trace W g.p0 g.a1 g.a0_0 g.a0_1 g.a0_2
  res := fun g => R_law_trace W g.out
  cells' := fun g => C_law_trace W g.p0 g.a1 g.a0_0 g.a0_1 g.a0_2 g.out
theorem ok_law_trace (W : Wd K mg) : FnOk P w K mg base CX0 3 W.a__law_trace W.d__law_trace ["deck", "most"] (F_law_trace (W)).sp := by
  refine J.fn_okD (F_law_trace (W)) W.F__law_trace sc__law_trace (fun g => rfl) (fun g => by intro s hs; simp only [F_law_trace, List.mem_cons, List.not_mem_nil, or_false] at hs; rcases hs with rfl | rfl <;> first | rfl | exact J.xsl_plain) (fun cdv A outer s H E hr B g h hG => ?_)
  have hN := (sc__law_trace).nd
  obtain ⟨p0, a1, a0_0, a0_1, a0_2, r0⟩ := g
  change m_law_trace a1 a0_0 a0_1 a0_2 = some r0 at h
  unfold m_law_trace at h
  change J.JS _ B (⟨[(sR9 (.ref p0)), (sV9 (a1 : Int)), sA9, sA9, sA9, sA9, sA9, sA9, sA9], [(p0, (cL9 [(sO9 (cL9 ((a0_0 : List Int).map sV9))), (sV9 (a0_1 : Int)), (sV9 (a0_2 : Int))]))]⟩ : J.Stt) _ (J.fend B (F_law_trace (W)) ⟨p0, a1, a0_0, a0_1, a0_2, r0⟩)
  obtain ⟨x1, hx1, h⟩ := J.bndE h
  refine J.js_set (hN := hN) 2 (J.je_frL (J.je_call (f := F_law_pool W) (ok_law_pool (base := base) W) hr (by decide) W.g__law_pool W.F__law_pool.kp W.b__law_pool (J.ja_cons (J.je_var 0 rfl) J.ja_nil) (g := (⟨p0, a0_0, a0_1, a0_2, x1⟩ : G_law_pool)) hx1 rfl (.cons 0 rfl (by nofun) .nil) (.cons 0 rfl .nil) (hG := fun G e => trivial))) ?_
  change J.JS _ _ (⟨[(sR9 (.ref p0)), (sV9 (a1 : Int)), (sV9 (x1.1 : (List Int))), sA9, sA9, sA9, sA9, sA9, sA9], [(p0, (cL9 [(sO9 (cL9 ((x1.2.1 : List Int).map sV9))), (sV9 (a0_1 : Int)), (sV9 (x1.2.2 : Int))]))]⟩ : J.Stt) _ _
  obtain ⟨x2, hx2, h⟩ := J.bndE h
  obtain ⟨x3, hx3, h⟩ := J.bndE h
  obtain ⟨x4, hx4, h⟩ := J.bndE h
  obtain ⟨x5, hx5, h⟩ := J.bndE h
  obtain ⟨x6, hx6, h⟩ := J.bndE h
  refine J.js_set (hN := hN) 3 (J.je_ixv (xs := ([x2.1, x3.1, x4.1] : List Int)) (J.je_lstv (xs := ([x2.1, x3.1, x4.1] : List Int)) (J.ja_cons (J.je_call (f := F_law_take W) (ok_law_take (base := base) W) hr (by decide) W.g__law_take W.F__law_take.kp W.b__law_take (J.ja_cons (J.je_var 0 rfl) (J.ja_cons J.je_int J.ja_nil)) (g := (⟨p0, 9, x1.2.1, a0_1, x1.2.2, x2⟩ : G_law_take)) hx2 rfl (.cons 0 rfl (by nofun) .nil) (.cons 0 rfl .nil) (hG := fun G e => trivial)) (J.ja_cons (J.je_call (f := F_law_take W) (ok_law_take (base := base) W) hr (by decide) W.g__law_take W.F__law_take.kp W.b__law_take (J.ja_cons (J.je_var 0 rfl) (J.ja_cons J.je_int J.ja_nil)) (g := (⟨p0, 26, x2.2.1, a0_1, x2.2.2, x3⟩ : G_law_take)) hx3 rfl (.cons 0 rfl (by nofun) .nil) (.cons 0 rfl .nil) (hG := fun G e => trivial)) (J.ja_cons (J.je_call (f := F_law_take W) (ok_law_take (base := base) W) hr (by decide) W.g__law_take W.F__law_take.kp W.b__law_take (J.ja_cons (J.je_var 0 rfl) (J.ja_cons (J.je_add (J.je_var 1 rfl) J.je_int) J.ja_nil)) (g := (⟨p0, (a1 + 1), x3.2.1, a0_1, x3.2.2, x4⟩ : G_law_take)) hx4 rfl (.cons 0 rfl (by nofun) .nil) (.cons 0 rfl .nil) (hG := fun G e => trivial)) J.ja_nil)))) (J.je_call (f := F_law_take W) (ok_law_take (base := base) W) hr (by decide) W.g__law_take W.F__law_take.kp W.b__law_take (J.ja_cons (J.je_var 0 rfl) (J.ja_cons J.je_int J.ja_nil)) (g := (⟨p0, 3, x4.2.1, a0_1, x4.2.2, x5⟩ : G_law_take)) hx5 rfl (.cons 0 rfl (by nofun) .nil) (.cons 0 rfl .nil) (hG := fun G e => trivial)) J.lv_own' hx6) ?_
  change J.JS _ _ (⟨[(sR9 (.ref p0)), (sV9 (a1 : Int)), (sV9 (x1.1 : (List Int))), (sV9 (x6 : Int)), sA9, sA9, sA9, sA9, sA9], [(p0, (cL9 [(sO9 (cL9 ((x5.2.1 : List Int).map sV9))), (sV9 (a0_1 : Int)), (sV9 (x5.2.2 : Int))]))]⟩ : J.Stt) _ _
  obtain ⟨x7, hx7, h⟩ := J.bndE h
  refine J.js_set (hN := hN) 4 (J.je_call (f := F_law_take W) (ok_law_take (base := base) W) hr (by decide) W.g__law_take W.F__law_take.kp W.b__law_take (J.ja_cons (J.je_var 0 rfl) (J.ja_cons J.je_int J.ja_nil)) (g := (⟨p0, 4, x5.2.1, a0_1, x5.2.2, x7⟩ : G_law_take)) hx7 rfl (.cons 0 rfl (by nofun) .nil) (.cons 0 rfl .nil) (hG := fun G e => trivial)) ?_
  change J.JS _ _ (⟨[(sR9 (.ref p0)), (sV9 (a1 : Int)), (sV9 (x1.1 : (List Int))), (sV9 (x6 : Int)), (sV9 (x7.1 : Int)), sA9, sA9, sA9, sA9], [(p0, (cL9 [(sO9 (cL9 ((x7.2.1 : List Int).map sV9))), (sV9 (a0_1 : Int)), (sV9 (x7.2.2 : Int))]))]⟩ : J.Stt) _ _
  refine J.js_set (hN := hN) 5 J.je_int ?_
  refine J.js_new (hN := hN) 6 (J.je_lstv (xs := ([] : List Int)) J.ja_nil) fun p8 => ?_
  obtain ⟨x9, hx9, h⟩ := J.bndE h
  obtain ⟨s33, hs33, h⟩ := J.bndE h
  refine J.js_forE (π := Unit) (f := m_law_trace_b0 a0_1 x1 x7) (Sf := fun (q11 : Unit) (s10 : ((List Int) × (Int × ((List Int) × Int)))) => (⟨[(sR9 (.ref p0)), (sV9 (a1 : Int)), (sV9 (x1.1 : (List Int))), (sV9 (x6 : Int)), (sV9 (x7.1 : Int)), (sV9 (s10.2.2.2 : Int)), (sR9 (.ref p8)), sA9, sA9], [(p0, (cL9 [(sO9 (cL9 ((s10.1 : List Int).map sV9))), (sV9 (a0_1 : Int)), (sV9 (s10.2.1 : Int))])), (p8, (cL9 ((s10.2.2.1 : List Int).map sV9)))]⟩ : J.Stt)) (Sb := fun (q11 : Unit) (s10 : ((List Int) × (Int × ((List Int) × Int)))) (x12 : Int) => (⟨[(sR9 (.ref p0)), (sV9 (a1 : Int)), (sV9 (x1.1 : (List Int))), (sV9 (x6 : Int)), (sV9 (x7.1 : Int)), (sV9 (s10.2.2.2 : Int)), (sR9 (.ref p8)), (sV9 (x12 : Int)), sA9], [(p0, (cL9 [(sO9 (cL9 ((s10.1 : List Int).map sV9))), (sV9 (a0_1 : Int)), (sV9 (s10.2.1 : Int))])), (p8, (cL9 ((s10.2.2.1 : List Int).map sV9)))]⟩ : J.Stt)) hs33 (J.ji_rngG W.l_range (J.je_min2 W.l_min (J.je_var 1 rfl) (J.je_var 3 rfl)) hx9) (fun _ _ _ _ g => ⟨(), J.le_fgt (sl := [(sR9 (.ref p0)), (sV9 (a1 : Int)), (sV9 (x1.1 : (List Int))), (sV9 (x6 : Int)), (sV9 (x7.1 : Int)), (sV9 ((x7.2.1, (x7.2.2, (([] : List Int), 0))).2.2.2 : Int)), (sR9 (.ref p8)), sA9, sA9]) (cs := [(p0, (cL9 [(sO9 (cL9 (((x7.2.1, (x7.2.2, (([] : List Int), 0))).1 : List Int).map sV9))), (sV9 (a0_1 : Int)), (sV9 ((x7.2.1, (x7.2.2, (([] : List Int), 0))).2.1 : Int))])), (p8, (cL9 (((x7.2.1, (x7.2.2, (([] : List Int), 0))).2.2.1 : List Int).map sV9)))]) 2 (.keep (.keep (.keep (.keep (.keep (.keep (.keep (.drop (.drop .nil))))))))) rfl _ _ _ _ g⟩) (fun _ _ => trivial) (fun q11 s10 x12 => (J.jg_name 7 (hN := hN))) (fun q11 s10 x12 sY _ h => ?_) (fun q11 => ?_)
  · unfold m_law_trace_b0 at h
    change J.JS _ _ (⟨[(sR9 (.ref p0)), (sV9 (a1 : Int)), (sV9 (x1.1 : (List Int))), (sV9 (x6 : Int)), (sV9 (x7.1 : Int)), (sV9 (s10.2.2.2 : Int)), (sR9 (.ref p8)), (sV9 (x12 : Int)), sA9], [(p0, (cL9 [(sO9 (cL9 ((s10.1 : List Int).map sV9))), (sV9 (a0_1 : Int)), (sV9 (s10.2.1 : Int))])), (p8, (cL9 ((s10.2.2.1 : List Int).map sV9)))]⟩ : J.Stt) _ _
    obtain ⟨x17, hx17, h⟩ := J.bndE h
    refine J.js_set (hN := hN) 8 (J.je_call (f := F_law_take W) (ok_law_take (base := base) W) hr (by decide) W.g__law_take W.F__law_take.kp W.b__law_take (J.ja_cons (J.je_var 0 rfl) (J.ja_cons J.je_int J.ja_nil)) (g := (⟨p0, 8, s10.1, a0_1, s10.2.1, x17⟩ : G_law_take)) hx17 rfl (.cons 0 rfl (by nofun) .nil) (.cons 0 rfl .nil) (hG := fun G e => trivial)) ?_
    change J.JS _ _ (⟨[(sR9 (.ref p0)), (sV9 (a1 : Int)), (sV9 (x1.1 : (List Int))), (sV9 (x6 : Int)), (sV9 (x7.1 : Int)), (sV9 (s10.2.2.2 : Int)), (sR9 (.ref p8)), (sV9 (x12 : Int)), (sV9 (x17.1 : Int))], [(p0, (cL9 [(sO9 (cL9 ((x17.2.1 : List Int).map sV9))), (sV9 (a0_1 : Int)), (sV9 (x17.2.2 : Int))])), (p8, (cL9 ((s10.2.2.1 : List Int).map sV9)))]⟩ : J.Stt) _ _
    obtain ⟨s18, hs18, h⟩ := J.bndE h
    refine J.js_ifE (π := Unit) (Sq := fun (q19 : Unit) => (⟨[(sR9 (.ref p0)), (sV9 (a1 : Int)), (sV9 (x1.1 : (List Int))), (sV9 (x6 : Int)), (sV9 (x7.1 : Int)), (sV9 (s18.2.2 : Int)), (sR9 (.ref p8)), (sV9 (x12 : Int)), (sV9 (x17.1 : Int))], [(p0, (cL9 [(sO9 (cL9 ((s18.1 : List Int).map sV9))), (sV9 (a0_1 : Int)), (sV9 (s18.2.1 : Int))])), (p8, (cL9 ((s10.2.2.1 : List Int).map sV9)))]⟩ : J.Stt)) (J.JW.t (J.jw_or (J.jt_eq' (t := (x7.1 : Int)) (r := (0 : Int)) hr (J.je_var 4 rfl) J.je_int J.dv_val J.dv_val) fun _ => (J.jw_or1 (J.jt_eq' (t := (x17.1 : Int)) (r := (7 : Int)) hr (J.je_var 8 rfl) J.je_int J.dv_val J.dv_val)))) (fun hp => ?_) (fun hp => ?_) (fun q19 => ?_)
    · have h := J.ifT hp hs18
      obtain ⟨x20, hx20, h⟩ := J.bndE h
      refine J.js_set (hN := hN) 5 (J.je_call (f := F_law_take W) (ok_law_take (base := base) W) hr (by decide) W.g__law_take W.F__law_take.kp W.b__law_take (J.ja_cons (J.je_var 0 rfl) (J.ja_cons (J.je_len (n := "len") (xs := x1.1) W.l_len (J.je_var 2 rfl) J.lv_val) J.ja_nil)) (g := (⟨p0, ((x1.1).length : Int), x17.2.1, a0_1, x17.2.2, x20⟩ : G_law_take)) hx20 rfl (.cons 0 rfl (by nofun) .nil) (.cons 0 rfl .nil) (hG := fun G e => trivial)) ?_
      change J.JS _ _ (⟨[(sR9 (.ref p0)), (sV9 (a1 : Int)), (sV9 (x1.1 : (List Int))), (sV9 (x6 : Int)), (sV9 (x7.1 : Int)), (sV9 (x20.1 : Int)), (sR9 (.ref p8)), (sV9 (x12 : Int)), (sV9 (x17.1 : Int))], [(p0, (cL9 [(sO9 (cL9 ((x20.2.1 : List Int).map sV9))), (sV9 (a0_1 : Int)), (sV9 (x20.2.2 : Int))])), (p8, (cL9 ((s10.2.2.1 : List Int).map sV9)))]⟩ : J.Stt) _ _
      have h9 := Option.some.inj h
      subst h9
      exact J.js_loopEnd (Sq := fun (q19 : Unit) (s18 : ((List Int) × (Int × Int))) => (⟨[(sR9 (.ref p0)), (sV9 (a1 : Int)), (sV9 (x1.1 : (List Int))), (sV9 (x6 : Int)), (sV9 (x7.1 : Int)), (sV9 (s18.2.2 : Int)), (sR9 (.ref p8)), (sV9 (x12 : Int)), (sV9 (x17.1 : Int))], [(p0, (cL9 [(sO9 (cL9 ((s18.1 : List Int).map sV9))), (sV9 (a0_1 : Int)), (sV9 (s18.2.1 : Int))])), (p8, (cL9 ((s10.2.2.1 : List Int).map sV9)))]⟩ : J.Stt)) (s' := (x20.2.1, (x20.2.2, x20.1))) 2 () (.keep (.keep (.keep (.keep (.keep (.keep (.keep (.keep (.keep .nil))))))))) rfl rfl
    · have h := J.ifF hp hs18
      obtain ⟨s21, hs21, h⟩ := J.bndE h
      refine J.js_ifE (π := Unit) (Sq := fun (q22 : Unit) => (⟨[(sR9 (.ref p0)), (sV9 (a1 : Int)), (sV9 (x1.1 : (List Int))), (sV9 (x6 : Int)), (sV9 (x7.1 : Int)), (sV9 (s21.2.2 : Int)), (sR9 (.ref p8)), (sV9 (x12 : Int)), (sV9 (x17.1 : Int))], [(p0, (cL9 [(sO9 (cL9 ((s21.1 : List Int).map sV9))), (sV9 (a0_1 : Int)), (sV9 (s21.2.1 : Int))])), (p8, (cL9 ((s10.2.2.1 : List Int).map sV9)))]⟩ : J.Stt)) (J.JW.t (J.jw_or (J.jt_eq' (t := (x7.1 : Int)) (r := (1 : Int)) hr (J.je_var 4 rfl) J.je_int J.dv_val J.dv_val) fun _ => (J.jw_or1 (J.jt_eq' (t := (x17.1 : Int)) (r := (6 : Int)) hr (J.je_var 8 rfl) J.je_int J.dv_val J.dv_val)))) (fun hp => ?_) (fun hp => ?_) (fun q22 => ?_)
      · have h := J.ifT hp hs21
        refine J.js_set (hN := hN) 5 (J.je_add (J.je_var 5 rfl) J.je_int) ?_
        have h9 := Option.some.inj h
        subst h9
        exact J.js_loopEnd (Sq := fun (q22 : Unit) (s21 : ((List Int) × (Int × Int))) => (⟨[(sR9 (.ref p0)), (sV9 (a1 : Int)), (sV9 (x1.1 : (List Int))), (sV9 (x6 : Int)), (sV9 (x7.1 : Int)), (sV9 (s21.2.2 : Int)), (sR9 (.ref p8)), (sV9 (x12 : Int)), (sV9 (x17.1 : Int))], [(p0, (cL9 [(sO9 (cL9 ((s21.1 : List Int).map sV9))), (sV9 (a0_1 : Int)), (sV9 (s21.2.1 : Int))])), (p8, (cL9 ((s10.2.2.1 : List Int).map sV9)))]⟩ : J.Stt)) (s' := (x17.2.1, (x17.2.2, (s10.2.2.2 + 1)))) 2 () (.keep (.keep (.keep (.keep (.keep (.keep (.keep (.keep (.keep .nil))))))))) rfl rfl
      · have h := J.ifF hp hs21
        obtain ⟨s23, hs23, h⟩ := J.bndE h
        refine J.js_ifE (π := Unit) (Sq := fun (q24 : Unit) => (⟨[(sR9 (.ref p0)), (sV9 (a1 : Int)), (sV9 (x1.1 : (List Int))), (sV9 (x6 : Int)), (sV9 (x7.1 : Int)), (sV9 (s23.2.2 : Int)), (sR9 (.ref p8)), (sV9 (x12 : Int)), (sV9 (x17.1 : Int))], [(p0, (cL9 [(sO9 (cL9 ((s23.1 : List Int).map sV9))), (sV9 (a0_1 : Int)), (sV9 (s23.2.1 : Int))])), (p8, (cL9 ((s10.2.2.1 : List Int).map sV9)))]⟩ : J.Stt)) (J.jt_eq' (t := (x7.1 : Int)) (r := (3 : Int)) hr (J.je_var 4 rfl) J.je_int J.dv_val J.dv_val) (fun hp => ?_) (fun hp => ?_) (fun q24 => ?_)
        · have h := J.ifT hp hs23
          obtain ⟨x25, hx25, h⟩ := J.bndE h
          obtain ⟨x26, hx26, h⟩ := J.bndE h
          refine J.js_set (hN := hN) 5 (J.je_let (J.je_sub (J.je_add (J.je_var 5 rfl) (J.je_call (f := F_law_take W) (ok_law_take (base := base) W) hr (by decide) W.g__law_take W.F__law_take.kp W.b__law_take (J.ja_cons (J.je_var 0 rfl) (J.ja_cons J.je_int J.ja_nil)) (g := (⟨p0, 3, x17.2.1, a0_1, x17.2.2, x25⟩ : G_law_take)) hx25 rfl (.cons 0 rfl (by nofun) .nil) (.cons 0 rfl .nil) (hG := fun G e => trivial))) J.je_int) hx26) ?_
          change J.JS _ _ (⟨[(sR9 (.ref p0)), (sV9 (a1 : Int)), (sV9 (x1.1 : (List Int))), (sV9 (x6 : Int)), (sV9 (x7.1 : Int)), (sV9 (x26 : Int)), (sR9 (.ref p8)), (sV9 (x12 : Int)), (sV9 (x17.1 : Int))], [(p0, (cL9 [(sO9 (cL9 ((x25.2.1 : List Int).map sV9))), (sV9 (a0_1 : Int)), (sV9 (x25.2.2 : Int))])), (p8, (cL9 ((s10.2.2.1 : List Int).map sV9)))]⟩ : J.Stt) _ _
          have h9 := Option.some.inj h
          subst h9
          exact J.js_loopEnd (Sq := fun (q24 : Unit) (s23 : ((List Int) × (Int × Int))) => (⟨[(sR9 (.ref p0)), (sV9 (a1 : Int)), (sV9 (x1.1 : (List Int))), (sV9 (x6 : Int)), (sV9 (x7.1 : Int)), (sV9 (s23.2.2 : Int)), (sR9 (.ref p8)), (sV9 (x12 : Int)), (sV9 (x17.1 : Int))], [(p0, (cL9 [(sO9 (cL9 ((s23.1 : List Int).map sV9))), (sV9 (a0_1 : Int)), (sV9 (s23.2.1 : Int))])), (p8, (cL9 ((s10.2.2.1 : List Int).map sV9)))]⟩ : J.Stt)) (s' := (x25.2.1, (x25.2.2, x26))) 2 () (.keep (.keep (.keep (.keep (.keep (.keep (.keep (.keep (.keep .nil))))))))) rfl rfl
        · have h := J.ifF hp hs23
          obtain ⟨s27, hs27, h⟩ := J.bndE h
          refine J.js_ifE (π := Unit) (Sq := fun (q28 : Unit) => (⟨[(sR9 (.ref p0)), (sV9 (a1 : Int)), (sV9 (x1.1 : (List Int))), (sV9 (x6 : Int)), (sV9 (x7.1 : Int)), (sV9 (s27.2.2 : Int)), (sR9 (.ref p8)), (sV9 (x12 : Int)), (sV9 (x17.1 : Int))], [(p0, (cL9 [(sO9 (cL9 ((s27.1 : List Int).map sV9))), (sV9 (a0_1 : Int)), (sV9 (s27.2.1 : Int))])), (p8, (cL9 ((s10.2.2.1 : List Int).map sV9)))]⟩ : J.Stt)) (J.jt_lt (J.je_var 8 rfl) J.je_int) (fun hp => ?_) (fun hp => ?_) (fun q28 => ?_)
          · have h := J.ifT hp hs27
            obtain ⟨x29, hx29, h⟩ := J.bndE h
            refine J.js_set (hN := hN) 5 (J.je_add (J.je_var 5 rfl) (J.je_call (f := F_law_take W) (ok_law_take (base := base) W) hr (by decide) W.g__law_take W.F__law_take.kp W.b__law_take (J.ja_cons (J.je_var 0 rfl) (J.ja_cons J.je_int J.ja_nil)) (g := (⟨p0, 2, x17.2.1, a0_1, x17.2.2, x29⟩ : G_law_take)) hx29 rfl (.cons 0 rfl (by nofun) .nil) (.cons 0 rfl .nil) (hG := fun G e => trivial))) ?_
            change J.JS _ _ (⟨[(sR9 (.ref p0)), (sV9 (a1 : Int)), (sV9 (x1.1 : (List Int))), (sV9 (x6 : Int)), (sV9 (x7.1 : Int)), (sV9 ((s10.2.2.2 + x29.1) : Int)), (sR9 (.ref p8)), (sV9 (x12 : Int)), (sV9 (x17.1 : Int))], [(p0, (cL9 [(sO9 (cL9 ((x29.2.1 : List Int).map sV9))), (sV9 (a0_1 : Int)), (sV9 (x29.2.2 : Int))])), (p8, (cL9 ((s10.2.2.1 : List Int).map sV9)))]⟩ : J.Stt) _ _
            have h9 := Option.some.inj h
            subst h9
            exact J.js_loopEnd (Sq := fun (q28 : Unit) (s27 : ((List Int) × (Int × Int))) => (⟨[(sR9 (.ref p0)), (sV9 (a1 : Int)), (sV9 (x1.1 : (List Int))), (sV9 (x6 : Int)), (sV9 (x7.1 : Int)), (sV9 (s27.2.2 : Int)), (sR9 (.ref p8)), (sV9 (x12 : Int)), (sV9 (x17.1 : Int))], [(p0, (cL9 [(sO9 (cL9 ((s27.1 : List Int).map sV9))), (sV9 (a0_1 : Int)), (sV9 (s27.2.1 : Int))])), (p8, (cL9 ((s10.2.2.1 : List Int).map sV9)))]⟩ : J.Stt)) (s' := (x29.2.1, (x29.2.2, (s10.2.2.2 + x29.1)))) 2 () (.keep (.keep (.keep (.keep (.keep (.keep (.keep (.keep (.keep .nil))))))))) rfl rfl
          · have h := J.ifF hp hs27
            have h9 := Option.some.inj h
            subst h9
            exact J.js_loopEnd (Sq := fun (q28 : Unit) (s27 : ((List Int) × (Int × Int))) => (⟨[(sR9 (.ref p0)), (sV9 (a1 : Int)), (sV9 (x1.1 : (List Int))), (sV9 (x6 : Int)), (sV9 (x7.1 : Int)), (sV9 (s27.2.2 : Int)), (sR9 (.ref p8)), (sV9 (x12 : Int)), (sV9 (x17.1 : Int))], [(p0, (cL9 [(sO9 (cL9 ((s27.1 : List Int).map sV9))), (sV9 (a0_1 : Int)), (sV9 (s27.2.1 : Int))])), (p8, (cL9 ((s10.2.2.1 : List Int).map sV9)))]⟩ : J.Stt)) (s' := (x17.2.1, (x17.2.2, s10.2.2.2))) 2 () (.keep (.keep (.keep (.keep (.keep (.keep (.keep (.keep (.keep .nil))))))))) rfl rfl
          have h9 := Option.some.inj h
          subst h9
          exact J.js_loopEnd (Sq := fun (q24 : Unit) (s23 : ((List Int) × (Int × Int))) => (⟨[(sR9 (.ref p0)), (sV9 (a1 : Int)), (sV9 (x1.1 : (List Int))), (sV9 (x6 : Int)), (sV9 (x7.1 : Int)), (sV9 (s23.2.2 : Int)), (sR9 (.ref p8)), (sV9 (x12 : Int)), (sV9 (x17.1 : Int))], [(p0, (cL9 [(sO9 (cL9 ((s23.1 : List Int).map sV9))), (sV9 (a0_1 : Int)), (sV9 (s23.2.1 : Int))])), (p8, (cL9 ((s10.2.2.1 : List Int).map sV9)))]⟩ : J.Stt)) (s' := (s27.1, (s27.2.1, s27.2.2))) 2 () (.keep (.keep (.keep (.keep (.keep (.keep (.keep (.keep (.keep .nil))))))))) rfl rfl
        have h9 := Option.some.inj h
        subst h9
        exact J.js_loopEnd (Sq := fun (q22 : Unit) (s21 : ((List Int) × (Int × Int))) => (⟨[(sR9 (.ref p0)), (sV9 (a1 : Int)), (sV9 (x1.1 : (List Int))), (sV9 (x6 : Int)), (sV9 (x7.1 : Int)), (sV9 (s21.2.2 : Int)), (sR9 (.ref p8)), (sV9 (x12 : Int)), (sV9 (x17.1 : Int))], [(p0, (cL9 [(sO9 (cL9 ((s21.1 : List Int).map sV9))), (sV9 (a0_1 : Int)), (sV9 (s21.2.1 : Int))])), (p8, (cL9 ((s10.2.2.1 : List Int).map sV9)))]⟩ : J.Stt)) (s' := (s23.1, (s23.2.1, s23.2.2))) 2 () (.keep (.keep (.keep (.keep (.keep (.keep (.keep (.keep (.keep .nil))))))))) rfl rfl
      have h9 := Option.some.inj h
      subst h9
      exact J.js_loopEnd (Sq := fun (q19 : Unit) (s18 : ((List Int) × (Int × Int))) => (⟨[(sR9 (.ref p0)), (sV9 (a1 : Int)), (sV9 (x1.1 : (List Int))), (sV9 (x6 : Int)), (sV9 (x7.1 : Int)), (sV9 (s18.2.2 : Int)), (sR9 (.ref p8)), (sV9 (x12 : Int)), (sV9 (x17.1 : Int))], [(p0, (cL9 [(sO9 (cL9 ((s18.1 : List Int).map sV9))), (sV9 (a0_1 : Int)), (sV9 (s18.2.1 : Int))])), (p8, (cL9 ((s10.2.2.1 : List Int).map sV9)))]⟩ : J.Stt)) (s' := (s21.1, (s21.2.1, s21.2.2))) 2 () (.keep (.keep (.keep (.keep (.keep (.keep (.keep (.keep (.keep .nil))))))))) rfl rfl
    obtain ⟨x30, hx30, h⟩ := J.bndE h
    refine J.js_set (hN := hN) 5 (J.je_modG (J.je_var 5 rfl) (J.je_len (n := "len") (xs := x1.1) W.l_len (J.je_var 2 rfl) J.lv_val) hx30) ?_
    obtain ⟨x31, hx31, h⟩ := J.bndE h
    obtain ⟨x32, hx32, h⟩ := J.bndE h
    refine J.js_expr (J.je_appG (xs := s10.2.2.1) (t := (x31 : Int)) 1 (J.je_var 6 rfl) rfl (J.je_ixv (xs := x1.1) (J.je_var 2 rfl) (J.je_var 5 rfl) J.lv_val hx31) rfl hx32) ?_
    have h9 := Option.some.inj h
    subst h9
    exact J.js_nil fun T tv σ H g => ⟨(), J.le_fgt (sl := [(sR9 (.ref p0)), (sV9 (a1 : Int)), (sV9 (x1.1 : (List Int))), (sV9 (x6 : Int)), (sV9 (x7.1 : Int)), (sV9 ((s18.1, (s18.2.1, (x32, x30))).2.2.2 : Int)), (sR9 (.ref p8)), sA9, sA9]) (cs := [(p0, (cL9 [(sO9 (cL9 (((s18.1, (s18.2.1, (x32, x30))).1 : List Int).map sV9))), (sV9 (a0_1 : Int)), (sV9 ((s18.1, (s18.2.1, (x32, x30))).2.1 : Int))])), (p8, (cL9 (((s18.1, (s18.2.1, (x32, x30))).2.2.1 : List Int).map sV9)))]) 2 (.keep (.keep (.keep (.keep (.keep (.keep (.keep (.drop (.drop .nil))))))))) rfl _ _ _ _ g⟩
  change J.JS _ _ (⟨[(sR9 (.ref p0)), (sV9 (a1 : Int)), (sV9 (x1.1 : (List Int))), (sV9 (x6 : Int)), (sV9 (x7.1 : Int)), (sV9 (s33.2.2.2 : Int)), (sR9 (.ref p8)), sA9, sA9], [(p0, (cL9 [(sO9 (cL9 ((s33.1 : List Int).map sV9))), (sV9 (a0_1 : Int)), (sV9 (s33.2.1 : Int))])), (p8, (cL9 ((s33.2.2.1 : List Int).map sV9)))]⟩ : J.Stt) _ _
  have h9 := Option.some.inj h
  subst h9
  exact J.js_ret (J.je_own 1 (J.je_var 6 rfl) rfl) fun v H o => J.Out.take 1 o
structure G_need_rule where
  a0 : St9
  out : Unit
abbrev R_need_rule {K : PySem.W.Frag} {mg : Str → Option Value} (W : Wd K mg) (r : Unit) : J.Slot := (sR9 .non)
abbrev C_need_rule {K : PySem.W.Frag} {mg : Str → Option Value} (W : Wd K mg) (a0 : St9) (r : Unit) : List (PySem.Addr × J.Cel) := []
abbrev A_need_rule {K : PySem.W.Frag} {mg : Str → Option Value} (W : Wd K mg) (a0 : St9) : List J.Slot := [(sV9 (a0 : St9)), (sR9 (.ref W.t_RULES))]
abbrev D_need_rule {K : PySem.W.Frag} {mg : Str → Option Value} (W : Wd K mg) (a0 : St9) : List (PySem.Addr × J.Cel) := []
def F_need_rule {K : PySem.W.Frag} {mg : Str → Option Value} (W : Wd K mg)  : J.FS G_need_rule where
  pre := fun g => m_need_rule g.a0 = some g.out
  preG := fun _ _ => True
  args := fun g => A_need_rule W g.a0
  cells := fun g => D_need_rule W g.a0
  res := fun g => R_need_rule W g.out
  cells' := fun g => C_need_rule W g.a0 g.out
theorem ok_need_rule (W : Wd K mg) : FnOk P w K mg base CX0 1 W.a_need_rule W.d_need_rule ["rule", "rules"] (F_need_rule (W)).sp := by
  refine J.fn_okD (F_need_rule (W)) W.F_need_rule sc_need_rule (fun g => rfl) (fun g => by intro s hs; simp only [F_need_rule, List.mem_cons, List.not_mem_nil, or_false] at hs; rcases hs with rfl | rfl <;> first | rfl | exact J.xsl_plain) (fun cdv A outer s H E hr B g h hG => ?_)
  have hN := (sc_need_rule).nd
  obtain ⟨a0, r0⟩ := g
  change m_need_rule a0 = some r0 at h
  unfold m_need_rule at h
  change J.JS _ B (⟨[(sV9 (a0 : St9)), (sR9 (.ref W.t_RULES))], []⟩ : J.Stt) _ (J.fend B (F_need_rule (W)) ⟨a0, r0⟩)
  refine J.js_if (J.jt_notInD (ss := ["first", "last", "clock", "far"]) (J.je_var 0 rfl) (J.je_var 1 rfl) W.tT_RULES) (fun hp => ?_) (fun hp => ?_)
  · replace h := J.ifT hp h
    exact nomatch h
  · replace h := J.ifF hp h
    refine J.js_end ?_
    change J.JS _ _ (⟨[(sV9 (a0 : St9)), (sR9 (.ref W.t_RULES))], []⟩ : J.Stt) _ _
    have h9 := Option.some.inj h
    subst h9
    exact J.js_fin 0 rfl rfl
structure G_need_room where
  a0 : Int
  out : Unit
abbrev R_need_room {K : PySem.W.Frag} {mg : Str → Option Value} (W : Wd K mg) (r : Unit) : J.Slot := (sR9 .non)
abbrev C_need_room {K : PySem.W.Frag} {mg : Str → Option Value} (W : Wd K mg) (a0 : Int) (r : Unit) : List (PySem.Addr × J.Cel) := []
abbrev A_need_room {K : PySem.W.Frag} {mg : Str → Option Value} (W : Wd K mg) (a0 : Int) : List J.Slot := [(sV9 (a0 : Int))]
abbrev D_need_room {K : PySem.W.Frag} {mg : Str → Option Value} (W : Wd K mg) (a0 : Int) : List (PySem.Addr × J.Cel) := []
def F_need_room {K : PySem.W.Frag} {mg : Str → Option Value} (W : Wd K mg)  : J.FS G_need_room where
  pre := fun g => m_need_room g.a0 = some g.out
  preG := fun _ _ => True
  args := fun g => A_need_room W g.a0
  cells := fun g => D_need_room W g.a0
  res := fun g => R_need_room W g.out
  cells' := fun g => C_need_room W g.a0 g.out
theorem ok_need_room (W : Wd K mg) : FnOk P w K mg base CX0 1 W.a_need_room W.d_need_room ["room"] (F_need_room (W)).sp := by
  refine J.fn_okD (F_need_room (W)) W.F_need_room sc_need_room (fun g => rfl) (fun g => by intro s hs; simp only [F_need_room, List.mem_cons, List.not_mem_nil, or_false] at hs; rcases hs with rfl <;> first | rfl | exact J.xsl_plain) (fun cdv A outer s H E hr B g h hG => ?_)
  have hN := (sc_need_room).nd
  obtain ⟨a0, r0⟩ := g
  change m_need_room a0 = some r0 at h
  unfold m_need_room at h
  change J.JS _ B (⟨[(sV9 (a0 : Int))], []⟩ : J.Stt) _ (J.fend B (F_need_room (W)) ⟨a0, r0⟩)
  refine J.js_if (J.jt_lt (J.je_var 0 rfl) J.je_int) (fun hp => ?_) (fun hp => ?_)
  · replace h := J.ifT hp h
    exact nomatch h
  · replace h := J.ifF hp h
    refine J.js_end ?_
    change J.JS _ _ (⟨[(sV9 (a0 : Int))], []⟩ : J.Stt) _ _
    have h9 := Option.some.inj h
    subst h9
    exact J.js_fin 0 rfl rfl
structure G_farthest where
  p0 : PySem.Addr
  a1 : (List Int)
  a0 : (List Int)
  out : Int
abbrev R_farthest {K : PySem.W.Frag} {mg : Str → Option Value} (W : Wd K mg) (r : Int) : J.Slot := (sV9 (r : Int))
abbrev C_farthest {K : PySem.W.Frag} {mg : Str → Option Value} (W : Wd K mg) (p0 : PySem.Addr) (a1 : (List Int)) (a0 : (List Int)) (r : Int) : List (PySem.Addr × J.Cel) := [(p0, (cL9 ((a0 : List Int).map sV9))), ((He.cT K ("farthest", none)).2, (J.Cel.say (J.tabC ((("farthest" : St9) ++ ".<locals>.") ++ "<lambda>"))))]
abbrev A_farthest {K : PySem.W.Frag} {mg : Str → Option Value} (W : Wd K mg) (p0 : PySem.Addr) (a1 : (List Int)) (a0 : (List Int)) : List J.Slot := [(sR9 (.ref p0)), (sV9 (a1 : (List Int)))]
abbrev D_farthest {K : PySem.W.Frag} {mg : Str → Option Value} (W : Wd K mg) (p0 : PySem.Addr) (a1 : (List Int)) (a0 : (List Int)) : List (PySem.Addr × J.Cel) := [(p0, (cL9 ((a0 : List Int).map sV9))), ((He.cT K ("farthest", none)).2, (J.Cel.say (J.tabC ((("farthest" : St9) ++ ".<locals>.") ++ "<lambda>"))))]
def F_farthest {K : PySem.W.Frag} {mg : Str → Option Value} (W : Wd K mg)  : J.FS G_farthest where
  pre := fun g => m_farthest g.a1 g.a0 = some g.out
  preG := fun _ _ => True
  args := fun g => A_farthest W g.p0 g.a1 g.a0
  cells := fun g => D_farthest W g.p0 g.a1 g.a0
  res := fun g => R_farthest W g.out
  cells' := fun g => C_farthest W g.p0 g.a1 g.a0 g.out
theorem ok_farthest (W : Wd K mg) : FnOk P w K mg base CX0 3 W.a_farthest W.d_farthest ["pages", "later"] (F_farthest (W)).sp := by
  refine J.fn_okC (F_farthest (W)) W.F_farthest sc_farthest (fun g => rfl) (fun g => by intro s hs; simp only [F_farthest, List.mem_cons, List.not_mem_nil, or_false] at hs; rcases hs with rfl | rfl <;> first | rfl | exact J.xsl_plain) (fun cdv hcv A outer s H E hr B g h hG => ?_)
  have hN := (sc_farthest).nd
  obtain ⟨p0, a1, a0, r0⟩ := g
  change m_farthest a1 a0 = some r0 at h
  unfold m_farthest at h
  change J.JS _ B (⟨[(sR9 (.ref p0)), (sV9 (a1 : (List Int))), sA9, sA9], [(p0, (cL9 ((a0 : List Int).map sV9))), ((He.cT K ("farthest", none)).2, (J.Cel.say (J.tabC ((("farthest" : St9) ++ ".<locals>.") ++ "<lambda>"))))]⟩ : J.Stt) _ (J.fend B (F_farthest (W)) ⟨p0, a1, a0, r0⟩)
  obtain ⟨x4, hx4, h⟩ := J.bndE h
  refine J.js_setLc 2 (z := (sV9 (x4.1 : (List Int)))) (f := m_farthest_c0 a1) (el := sV9) (Sf := fun (s1 : Unit) => (⟨[(sR9 (.ref p0)), (sV9 (a1 : (List Int))), sA9, sA9], [(p0, (cL9 ((a0 : List Int).map sV9))), ((He.cT K ("farthest", none)).2, (J.Cel.say (J.tabC ((("farthest" : St9) ++ ".<locals>.") ++ "<lambda>"))))]⟩ : J.Stt)) (Sb := fun (s1 : Unit) (x3 : Int) => (⟨[(sR9 (.ref p0)), (sV9 (a1 : (List Int))), sA9, (sV9 (x3 : Int))], [(p0, (cL9 ((a0 : List Int).map sV9))), ((He.cT K ("farthest", none)).2, (J.Cel.say (J.tabC ((("farthest" : St9) ++ ".<locals>.") ++ "<lambda>"))))]⟩ : J.Stt)) (s0 := ()) (own := [(("page" : St9), 3)]) (ws := [3]) (J.lcM_of hx4).2 (J.lcM_of hx4).1 hN (L2.blkOk_by (N := ["pages", "later", "never", "page"]) (sc := defScope s_farthest) (by decide +kernel)) (J.ji_cell (xs := a0) 0 (J.je_var 0 rfl) rfl) (J.le_fgt 2 (.keep (.keep (.drop (.drop .nil)))) rfl) (fun _ => rfl) (fun _ => J.any_at rfl) (by decide) (fun s1 x3 => fun s91 H91 C91 cl91 fp91 =>  J.inJG hN fun hN => (J.jg_name 3 (hN := hN))) (fun s1 x3 o sZ _ h => by
      unfold m_farthest_c0 at h
      by_cases hp : (decide (x3 ∉ a1)) = true
      · replace h := J.ifT hp h
        obtain ⟨h8, h9⟩ := Prod.mk.inj (Option.some.inj h)
        subst h8
        subst h9
        exact ⟨true, _, (fun s91 H91 C91 cl91 fp91 =>  J.inJTs hr hN fun hr hN => J.jts_one (J.jt_eq (J.jt_notIn (t := (x3 : Int)) (xs := a1) hr (J.je_var 3 rfl) (J.je_var 1 rfl) J.dv_val J.lv_val) hp)), fun _ => ⟨_, _, rfl, (fun s91 H91 C91 cl91 fp91 =>  J.inJE hr hN fun hr hN => (J.je_var 3 rfl)), (J.le_fgt 2 (.keep (.keep (.drop (.drop .nil)))) rfl)⟩, nofun⟩
      · rw [Bool.not_eq_true] at hp
        replace h := J.ifF hp h
        obtain ⟨h8, h9⟩ := Prod.mk.inj (Option.some.inj h)
        subst h8
        subst h9
        exact ⟨false, _, (fun s91 H91 C91 cl91 fp91 =>  J.inJTs hr hN fun hr hN => J.jts_one (J.jt_eq (J.jt_notIn (t := (x3 : Int)) (xs := a1) hr (J.je_var 3 rfl) (J.je_var 1 rfl) J.dv_val J.lv_val) hp)), nofun, fun _ => ⟨rfl, (J.le_fgt 2 (.keep (.keep (.drop (.drop .nil)))) rfl)⟩⟩) (fun h => h.frz (.own (J.fz_val _)) fun G d => .val d) ?_
  refine J.js_if (J.jt_ne' (t := (x4.1 : (List Int))) (r := (([] : List Int) : (List Int))) hr (J.je_var 2 rfl) (J.je_lstv (xs := ([] : List Int)) J.ja_nil) J.dv_val J.dv_ownL) (fun hp => ?_) (fun hp => ?_)
  · replace h := J.ifT hp h
    obtain ⟨x5, hx5, h⟩ := J.bndE h
    have h9 := Option.some.inj h
    subst h9
    exact J.js_ret (J.je_minG (xs := x4.1) hr W.l_min (J.je_var 2 rfl) J.lv_val hx5) fun v H o => J.Out.take 2 o
  · replace h := J.ifF hp h
    refine J.js_end ?_
    change J.JS _ _ (⟨[(sR9 (.ref p0)), (sV9 (a1 : (List Int))), (sV9 (x4.1 : (List Int))), sA9], [(p0, (cL9 ((a0 : List Int).map sV9))), ((He.cT K ("farthest", none)).2, (J.Cel.say (J.tabC ((("farthest" : St9) ++ ".<locals>.") ++ "<lambda>"))))]⟩ : J.Stt) _ _
    obtain ⟨x9, hx9, h⟩ := J.bndE h
    have h9 := Option.some.inj h
    subst h9
    exact J.js_ret (J.je_maxK (xs := a0) (k := m_farthest_l1 a1) (p := "page") hx9 1 3 (Tbs.tb_farthest (K := K) (mg := mg) (base := base)) (hcv.symm.trans W.cd_farthest) (J.lamP_by (sc := defScope s_farthest) (by decide +kernel)) W.l_max (J.je_var 0 rfl) (J.lv_cell' 0 rfl) rfl hr (by decide) (fun s9 H9 f9 c9 y6 k7 h hr => by
      unfold m_farthest_l1 at h
      obtain ⟨x8, hx8, h⟩ := J.bndE h
      have h9 := Option.some.inj h
      subst h9
      exact (J.je_idxV (xs := a1) (t := (y6 : Int)) hr (J.je_var 1 rfl) (J.je_var 3 rfl) hx8)) hN) fun v H o => J.Out.take 2 o
structure G_far_walk where
  a0 : (List Int)
  a1 : Int
  out : (List (PySem.W.T3 Int St9 (Option Int)))
abbrev R_far_walk {K : PySem.W.Frag} {mg : Str → Option Value} (W : Wd K mg) (r : (List (PySem.W.T3 Int St9 (Option Int)))) : J.Slot := (sO9 (cL9 ((r : List (PySem.W.T3 Int St9 (Option Int))).map sV9)))
abbrev C_far_walk {K : PySem.W.Frag} {mg : Str → Option Value} (W : Wd K mg) (a0 : (List Int)) (a1 : Int) (r : (List (PySem.W.T3 Int St9 (Option Int)))) : List (PySem.Addr × J.Cel) := [((He.cT K ("farthest", none)).2, (J.Cel.say (J.tabC ((("farthest" : St9) ++ ".<locals>.") ++ "<lambda>"))))]
abbrev A_far_walk {K : PySem.W.Frag} {mg : Str → Option Value} (W : Wd K mg) (a0 : (List Int)) (a1 : Int) : List J.Slot := [(sV9 (a0 : (List Int))), (sV9 (a1 : Int))]
abbrev D_far_walk {K : PySem.W.Frag} {mg : Str → Option Value} (W : Wd K mg) (a0 : (List Int)) (a1 : Int) : List (PySem.Addr × J.Cel) := [((He.cT K ("farthest", none)).2, (J.Cel.say (J.tabC ((("farthest" : St9) ++ ".<locals>.") ++ "<lambda>"))))]
def F_far_walk {K : PySem.W.Frag} {mg : Str → Option Value} (W : Wd K mg)  : J.FS G_far_walk where
  pre := fun g => m_far_walk g.a0 g.a1 = some g.out
  preG := fun _ _ => True
  args := fun g => A_far_walk W g.a0 g.a1
  cells := fun g => D_far_walk W g.a0 g.a1
  res := fun g => R_far_walk W g.out
  cells' := fun g => C_far_walk W g.a0 g.a1 g.out
theorem ok_far_walk (W : Wd K mg) : FnOk P w K mg base CX0 4 W.a_far_walk W.d_far_walk ["trace", "room"] (F_far_walk (W)).sp := by
  refine J.fn_okD (F_far_walk (W)) W.F_far_walk sc_far_walk (fun g => rfl) (fun g => by intro s hs; simp only [F_far_walk, List.mem_cons, List.not_mem_nil, or_false] at hs; rcases hs with rfl | rfl <;> first | rfl | exact J.xsl_plain) (fun cdv A outer s H E hr B g h hG => ?_)
  have hN := (sc_far_walk).nd
  obtain ⟨a0, a1, r0⟩ := g
  change m_far_walk a0 a1 = some r0 at h
  unfold m_far_walk at h
  change J.JS _ B (⟨[(sV9 (a0 : (List Int))), (sV9 (a1 : Int)), sA9, sA9, sA9, sA9, sA9, sA9], [((He.cT K ("farthest", none)).2, (J.Cel.say (J.tabC ((("farthest" : St9) ++ ".<locals>.") ++ "<lambda>"))))]⟩ : J.Stt) _ (J.fend B (F_far_walk (W)) ⟨a0, a1, r0⟩)
  refine J.js_new (hN := hN) 2 (J.je_lstv (xs := ([] : List Int)) J.ja_nil) fun p1 => ?_
  refine J.js_new (hN := hN) 3 (J.je_lstv (xs := ([] : List (PySem.W.T3 Int St9 (Option Int)))) J.ja_nil) fun p2 => ?_
  obtain ⟨s19, hs19, h⟩ := J.bndE h
  refine J.js_forE (π := Unit) (f := m_far_walk_b0 a0 a1) (Sf := fun (q4 : Unit) (s3 : ((List Int) × (List (PySem.W.T3 Int St9 (Option Int))))) => (⟨[(sV9 (a0 : (List Int))), (sV9 (a1 : Int)), (sR9 (.ref p1)), (sR9 (.ref p2)), sA9, sA9, sA9, sA9], [((He.cT K ("farthest", none)).2, (J.Cel.say (J.tabC ((("farthest" : St9) ++ ".<locals>.") ++ "<lambda>")))), (p1, (cL9 ((s3.1 : List Int).map sV9))), (p2, (cL9 ((s3.2 : List (PySem.W.T3 Int St9 (Option Int))).map sV9)))]⟩ : J.Stt)) (Sb := fun (q4 : Unit) (s3 : ((List Int) × (List (PySem.W.T3 Int St9 (Option Int))))) (x5 : (Int × Int)) => (⟨[(sV9 (a0 : (List Int))), (sV9 (a1 : Int)), (sR9 (.ref p1)), (sR9 (.ref p2)), (sV9 (x5.1 : Int)), (sV9 (x5.2 : Int)), sA9, sA9], [((He.cT K ("farthest", none)).2, (J.Cel.say (J.tabC ((("farthest" : St9) ++ ".<locals>.") ++ "<lambda>")))), (p1, (cL9 ((s3.1 : List Int).map sV9))), (p2, (cL9 ((s3.2 : List (PySem.W.T3 Int St9 (Option Int))).map sV9)))]⟩ : J.Stt)) hs19 (J.ji_enum (xs := a0) (ok := fun _ => True) W.l_enumerate (J.je_var 0 rfl) J.lv_val (fun _ _ => J.lv_val)) (fun _ _ _ _ g => ⟨(), J.le_fgt (sl := [(sV9 (a0 : (List Int))), (sV9 (a1 : Int)), (sR9 (.ref p1)), (sR9 (.ref p2)), sA9, sA9, sA9, sA9]) (cs := [((He.cT K ("farthest", none)).2, (J.Cel.say (J.tabC ((("farthest" : St9) ++ ".<locals>.") ++ "<lambda>")))), (p1, (cL9 (((([] : List Int), ([] : List (PySem.W.T3 Int St9 (Option Int)))).1 : List Int).map sV9))), (p2, (cL9 (((([] : List Int), ([] : List (PySem.W.T3 Int St9 (Option Int)))).2 : List (PySem.W.T3 Int St9 (Option Int))).map sV9)))]) 3 (.keep (.keep (.keep (.keep (.drop (.drop (.drop (.drop .nil)))))))) rfl _ _ _ _ g⟩) (fun _ _ => trivial) (fun q4 s3 x5 => (J.jg_pair (J.jgs_cons (J.jg_name 4 (hN := hN)) (J.jgs_cons (J.jg_name 5 (hN := hN)) J.jgs_nil)))) (fun q4 s3 x5 sY _ h => ?_) (fun q4 => ?_)
  · unfold m_far_walk_b0 at h
    change J.JS _ _ (⟨[(sV9 (a0 : (List Int))), (sV9 (a1 : Int)), (sR9 (.ref p1)), (sR9 (.ref p2)), (sV9 (x5.1 : Int)), (sV9 (x5.2 : Int)), sA9, sA9], [((He.cT K ("farthest", none)).2, (J.Cel.say (J.tabC ((("farthest" : St9) ++ ".<locals>.") ++ "<lambda>")))), (p1, (cL9 ((s3.1 : List Int).map sV9))), (p2, (cL9 ((s3.2 : List (PySem.W.T3 Int St9 (Option Int))).map sV9)))]⟩ : J.Stt) _ _
    refine J.js_set (hN := hN) 6 (J.je_nonO (α := Int) J.je_non) ?_
    refine J.js_set (hN := hN) 7 J.je_str ?_
    obtain ⟨s10, hs10, h⟩ := J.bndE h
    refine J.js_ifE (π := Unit) (Sq := fun (q11 : Unit) => (⟨[(sV9 (a0 : (List Int))), (sV9 (a1 : Int)), (sR9 (.ref p1)), (sR9 (.ref p2)), (sV9 (x5.1 : Int)), (sV9 (x5.2 : Int)), (sV9 (s10.2.1 : (Option Int))), (sV9 (s10.2.2 : St9))], [((He.cT K ("farthest", none)).2, (J.Cel.say (J.tabC ((("farthest" : St9) ++ ".<locals>.") ++ "<lambda>")))), (p1, (cL9 ((s10.1 : List Int).map sV9))), (p2, (cL9 ((s3.2 : List (PySem.W.T3 Int St9 (Option Int))).map sV9)))]⟩ : J.Stt)) (J.jt_notIn (t := (x5.2 : Int)) (xs := s3.1) hr (J.je_var 5 rfl) (J.je_var 2 rfl) J.dv_val (J.lv_cell' 1 rfl)) (fun hp => ?_) (fun hp => ?_) (fun q11 => ?_)
    · have h := J.ifT hp hs10
      refine J.js_set (hN := hN) 7 J.je_str ?_
      obtain ⟨s12, hs12, h⟩ := J.bndE h
      refine J.js_ifE (π := Unit) (Sq := fun (q13 : Unit) => (⟨[(sV9 (a0 : (List Int))), (sV9 (a1 : Int)), (sR9 (.ref p1)), (sR9 (.ref p2)), (sV9 (x5.1 : Int)), (sV9 (x5.2 : Int)), (sV9 (s12.2 : (Option Int))), (sV9 (("fault" : St9) : St9))], [((He.cT K ("farthest", none)).2, (J.Cel.say (J.tabC ((("farthest" : St9) ++ ".<locals>.") ++ "<lambda>")))), (p1, (cL9 ((s12.1 : List Int).map sV9))), (p2, (cL9 ((s3.2 : List (PySem.W.T3 Int St9 (Option Int))).map sV9)))]⟩ : J.Stt)) (J.jt_eq' (t := (((s3.1).length : Int) : Int)) (r := (a1 : Int)) hr (J.je_len (n := "len") (xs := s3.1) W.l_len (J.je_var 2 rfl) (J.lv_cell' 1 rfl)) (J.je_var 1 rfl) J.dv_val J.dv_val) (fun hp => ?_) (fun hp => ?_) (fun q13 => ?_)
      · have h := J.ifT hp hs12
        obtain ⟨x14, hx14, h⟩ := J.bndE h
        refine J.js_set (hN := hN) 6 (J.je_some (J.je_call (f := F_farthest W) (ok_farthest (base := base) W) hr (by decide) W.g_farthest W.F_farthest.kp W.b_farthest (J.ja_cons (J.je_var 2 rfl) (J.ja_cons (J.je_frL (J.je_slcv (xs := a0) (J.je_var 0 rfl) (J.jo_some (J.je_add (J.je_var 4 rfl) J.je_int)) J.jo_none J.lv_val)) J.ja_nil)) (g := (⟨p1, (J.slc a0 (some (x5.1 + 1)) none), s3.1, x14⟩ : G_farthest)) hx14 rfl (.cons 1 rfl (by nofun) (.cons 0 rfl (by nofun) .nil)) (.cons 1 rfl (.cons 0 rfl .nil)) (hG := fun G e => trivial))) ?_
        change J.JS _ _ (⟨[(sV9 (a0 : (List Int))), (sV9 (a1 : Int)), (sR9 (.ref p1)), (sR9 (.ref p2)), (sV9 (x5.1 : Int)), (sV9 (x5.2 : Int)), (sV9 ((some x14) : (Option Int))), (sV9 (("fault" : St9) : St9))], [((He.cT K ("farthest", none)).2, (J.Cel.say (J.tabC ((("farthest" : St9) ++ ".<locals>.") ++ "<lambda>")))), (p1, (cL9 ((s3.1 : List Int).map sV9))), (p2, (cL9 ((s3.2 : List (PySem.W.T3 Int St9 (Option Int))).map sV9)))]⟩ : J.Stt) _ _
        obtain ⟨x15, hx15, h⟩ := J.bndE h
        obtain ⟨x16, hx16, h⟩ := J.bndE h
        refine J.js_expr (J.je_remG (xs := s3.1) (t := (x15 : Int)) 1 hr (J.je_var 2 rfl) rfl (J.je_get (J.je_var 6 rfl) hx15) rfl hx16) ?_
        have h9 := Option.some.inj h
        subst h9
        exact J.js_loopEnd (Sq := fun (q13 : Unit) (s12 : ((List Int) × (Option Int))) => (⟨[(sV9 (a0 : (List Int))), (sV9 (a1 : Int)), (sR9 (.ref p1)), (sR9 (.ref p2)), (sV9 (x5.1 : Int)), (sV9 (x5.2 : Int)), (sV9 (s12.2 : (Option Int))), (sV9 (("fault" : St9) : St9))], [((He.cT K ("farthest", none)).2, (J.Cel.say (J.tabC ((("farthest" : St9) ++ ".<locals>.") ++ "<lambda>")))), (p1, (cL9 ((s12.1 : List Int).map sV9))), (p2, (cL9 ((s3.2 : List (PySem.W.T3 Int St9 (Option Int))).map sV9)))]⟩ : J.Stt)) (s' := (x16, (some x14))) 3 () (.keep (.keep (.keep (.keep (.keep (.keep (.keep (.keep .nil)))))))) rfl rfl
      · have h := J.ifF hp hs12
        have h9 := Option.some.inj h
        subst h9
        exact J.js_loopEnd (Sq := fun (q13 : Unit) (s12 : ((List Int) × (Option Int))) => (⟨[(sV9 (a0 : (List Int))), (sV9 (a1 : Int)), (sR9 (.ref p1)), (sR9 (.ref p2)), (sV9 (x5.1 : Int)), (sV9 (x5.2 : Int)), (sV9 (s12.2 : (Option Int))), (sV9 (("fault" : St9) : St9))], [((He.cT K ("farthest", none)).2, (J.Cel.say (J.tabC ((("farthest" : St9) ++ ".<locals>.") ++ "<lambda>")))), (p1, (cL9 ((s12.1 : List Int).map sV9))), (p2, (cL9 ((s3.2 : List (PySem.W.T3 Int St9 (Option Int))).map sV9)))]⟩ : J.Stt)) (s' := (s3.1, none)) 3 () (.keep (.keep (.keep (.keep (.keep (.keep (.keep (.keep .nil)))))))) rfl rfl
      obtain ⟨x17, hx17, h⟩ := J.bndE h
      refine J.js_expr (J.je_appG (xs := s12.1) (t := (x5.2 : Int)) 1 (J.je_var 2 rfl) rfl (J.je_var 5 rfl) rfl hx17) ?_
      have h9 := Option.some.inj h
      subst h9
      exact J.js_loopEnd (Sq := fun (q11 : Unit) (s10 : ((List Int) × ((Option Int) × St9))) => (⟨[(sV9 (a0 : (List Int))), (sV9 (a1 : Int)), (sR9 (.ref p1)), (sR9 (.ref p2)), (sV9 (x5.1 : Int)), (sV9 (x5.2 : Int)), (sV9 (s10.2.1 : (Option Int))), (sV9 (s10.2.2 : St9))], [((He.cT K ("farthest", none)).2, (J.Cel.say (J.tabC ((("farthest" : St9) ++ ".<locals>.") ++ "<lambda>")))), (p1, (cL9 ((s10.1 : List Int).map sV9))), (p2, (cL9 ((s3.2 : List (PySem.W.T3 Int St9 (Option Int))).map sV9)))]⟩ : J.Stt)) (s' := (x17, (s12.2, ("fault" : St9)))) 3 () (.keep (.keep (.keep (.keep (.keep (.keep (.keep (.keep .nil)))))))) rfl rfl
    · have h := J.ifF hp hs10
      have h9 := Option.some.inj h
      subst h9
      exact J.js_loopEnd (Sq := fun (q11 : Unit) (s10 : ((List Int) × ((Option Int) × St9))) => (⟨[(sV9 (a0 : (List Int))), (sV9 (a1 : Int)), (sR9 (.ref p1)), (sR9 (.ref p2)), (sV9 (x5.1 : Int)), (sV9 (x5.2 : Int)), (sV9 (s10.2.1 : (Option Int))), (sV9 (s10.2.2 : St9))], [((He.cT K ("farthest", none)).2, (J.Cel.say (J.tabC ((("farthest" : St9) ++ ".<locals>.") ++ "<lambda>")))), (p1, (cL9 ((s10.1 : List Int).map sV9))), (p2, (cL9 ((s3.2 : List (PySem.W.T3 Int St9 (Option Int))).map sV9)))]⟩ : J.Stt)) (s' := (s3.1, (none, ("hit" : St9)))) 3 () (.keep (.keep (.keep (.keep (.keep (.keep (.keep (.keep .nil)))))))) rfl rfl
    obtain ⟨x18, hx18, h⟩ := J.bndE h
    refine J.js_expr (J.je_appG (xs := s3.2) (t := ((PySem.W.T3.mk x5.2 s10.2.2 s10.2.1) : (PySem.W.T3 Int St9 (Option Int)))) 2 (J.je_var 3 rfl) rfl (J.je_tup (t := ((PySem.W.T3.mk x5.2 s10.2.2 s10.2.1) : (PySem.W.T3 Int St9 (Option Int)))) (J.ja_cons (J.je_var 5 rfl) (J.ja_cons (J.je_var 7 rfl) (J.ja_cons (J.je_var 6 rfl) J.ja_nil))) (J.SlDs.cons J.sld_val (J.SlDs.cons J.sld_val (J.SlDs.cons J.sld_val J.SlDs.nil))) rfl (Nat.le_of_ble_eq_true rfl)) rfl hx18) ?_
    have h9 := Option.some.inj h
    subst h9
    exact J.js_nil fun T tv σ H g => ⟨(), J.le_fgt (sl := [(sV9 (a0 : (List Int))), (sV9 (a1 : Int)), (sR9 (.ref p1)), (sR9 (.ref p2)), sA9, sA9, sA9, sA9]) (cs := [((He.cT K ("farthest", none)).2, (J.Cel.say (J.tabC ((("farthest" : St9) ++ ".<locals>.") ++ "<lambda>")))), (p1, (cL9 (((s10.1, x18).1 : List Int).map sV9))), (p2, (cL9 (((s10.1, x18).2 : List (PySem.W.T3 Int St9 (Option Int))).map sV9)))]) 3 (.keep (.keep (.keep (.keep (.drop (.drop (.drop (.drop .nil)))))))) rfl _ _ _ _ g⟩
  change J.JS _ _ (⟨[(sV9 (a0 : (List Int))), (sV9 (a1 : Int)), (sR9 (.ref p1)), (sR9 (.ref p2)), sA9, sA9, sA9, sA9], [((He.cT K ("farthest", none)).2, (J.Cel.say (J.tabC ((("farthest" : St9) ++ ".<locals>.") ++ "<lambda>")))), (p1, (cL9 ((s19.1 : List Int).map sV9))), (p2, (cL9 ((s19.2 : List (PySem.W.T3 Int St9 (Option Int))).map sV9)))]⟩ : J.Stt) _ _
  have h9 := Option.some.inj h
  subst h9
  exact J.js_ret (J.je_own 2 (J.je_var 3 rfl) rfl) fun v H o => J.Out.take 1 o
structure G_walk where
  a0 : (List Int)
  a1 : Int
  out : (List (PySem.W.T3 Int St9 (Option Int)))
abbrev R_walk {K : PySem.W.Frag} {mg : Str → Option Value} (W : Wd K mg) (r : (List (PySem.W.T3 Int St9 (Option Int)))) : J.Slot := (sO9 (cL9 ((r : List (PySem.W.T3 Int St9 (Option Int))).map sV9)))
abbrev C_walk {K : PySem.W.Frag} {mg : Str → Option Value} (W : Wd K mg) (a0 : (List Int)) (a1 : Int) (r : (List (PySem.W.T3 Int St9 (Option Int)))) : List (PySem.Addr × J.Cel) := [((He.cT K ("farthest", none)).2, (J.Cel.say (J.tabC ((("farthest" : St9) ++ ".<locals>.") ++ "<lambda>"))))]
abbrev A_walk {K : PySem.W.Frag} {mg : Str → Option Value} (W : Wd K mg) (a0 : (List Int)) (a1 : Int) : List J.Slot := [(sV9 (a0 : (List Int))), (sV9 (a1 : Int)), (sV9 (("far" : St9) : St9))]
abbrev D_walk {K : PySem.W.Frag} {mg : Str → Option Value} (W : Wd K mg) (a0 : (List Int)) (a1 : Int) : List (PySem.Addr × J.Cel) := [((He.cT K ("farthest", none)).2, (J.Cel.say (J.tabC ((("farthest" : St9) ++ ".<locals>.") ++ "<lambda>"))))]
def F_walk {K : PySem.W.Frag} {mg : Str → Option Value} (W : Wd K mg)  : J.FS G_walk where
  pre := fun g => m_walk g.a0 g.a1 = some g.out
  preG := fun _ _ => True
  args := fun g => A_walk W g.a0 g.a1
  cells := fun g => D_walk W g.a0 g.a1
  res := fun g => R_walk W g.out
  cells' := fun g => C_walk W g.a0 g.a1 g.out
theorem ok_walk (W : Wd K mg) : FnOk P w K mg base CX0 5 W.a_walk W.d_walk ["trace", "room", "rule"] (F_walk (W)).sp := by
  refine J.fn_okD (F_walk (W)) W.F_walk sc_walk (fun g => rfl) (fun g => by intro s hs; simp only [F_walk, List.mem_cons, List.not_mem_nil, or_false] at hs; rcases hs with rfl | rfl | rfl <;> first | rfl | exact J.xsl_plain) (fun cdv A outer s H E hr B g h hG => ?_)
  have hN := (sc_walk).nd
  obtain ⟨a0, a1, r0⟩ := g
  change m_walk a0 a1 = some r0 at h
  unfold m_walk at h
  change J.JS _ B (⟨[(sV9 (a0 : (List Int))), (sV9 (a1 : Int)), (sV9 (("far" : St9) : St9)), sA9, sA9], [((He.cT K ("farthest", none)).2, (J.Cel.say (J.tabC ((("farthest" : St9) ++ ".<locals>.") ++ "<lambda>"))))]⟩ : J.Stt) _ (J.fend B (F_walk (W)) ⟨a0, a1, r0⟩)
  obtain ⟨x1, hx1, h⟩ := J.bndE h
  refine J.js_expr (J.je_call (f := F_need_rule W) (ok_need_rule (base := base) W) hr (by decide) W.g_need_rule W.F_need_rule.kp W.b_need_rule (J.ja_cons (J.je_var 2 rfl) (J.ja_cons (J.je_glob W.gT_RULES) J.ja_nil)) (g := (⟨("far" : St9), x1⟩ : G_need_rule)) hx1 rfl .nil .nil (hG := fun G e => trivial)) ?_
  change J.JS _ _ (⟨[(sV9 (a0 : (List Int))), (sV9 (a1 : Int)), (sV9 (("far" : St9) : St9)), sA9, sA9], [((He.cT K ("farthest", none)).2, (J.Cel.say (J.tabC ((("farthest" : St9) ++ ".<locals>.") ++ "<lambda>"))))]⟩ : J.Stt) _ _
  obtain ⟨x2, hx2, h⟩ := J.bndE h
  refine J.js_expr (J.je_call (f := F_need_room W) (ok_need_room (base := base) W) hr (by decide) W.g_need_room W.F_need_room.kp W.b_need_room (J.ja_cons (J.je_var 1 rfl) J.ja_nil) (g := (⟨a1, x2⟩ : G_need_room)) hx2 rfl .nil .nil (hG := fun G e => trivial)) ?_
  change J.JS _ _ (⟨[(sV9 (a0 : (List Int))), (sV9 (a1 : Int)), (sV9 (("far" : St9) : St9)), sA9, sA9], [((He.cT K ("farthest", none)).2, (J.Cel.say (J.tabC ((("farthest" : St9) ++ ".<locals>.") ++ "<lambda>"))))]⟩ : J.Stt) _ _
  refine J.js_if (J.jt_eq (J.jt_eq' (t := (("far" : St9) : St9)) (r := (("far" : St9) : St9)) hr (J.je_var 2 rfl) J.je_str J.dv_val J.dv_val) (q := true) (by decide)) (fun hp => ?_) (fun hp => absurd hp (by decide))
  obtain ⟨x3, hx3, h⟩ := J.bndE h
  have h9 := Option.some.inj h
  subst h9
  exact J.js_ret (J.je_call (f := F_far_walk W) (ok_far_walk (base := base) W) hr (by decide) W.g_far_walk W.F_far_walk.kp W.b_far_walk (J.ja_cons (J.je_var 0 rfl) (J.ja_cons (J.je_var 1 rfl) J.ja_nil)) (g := (⟨a0, a1, x3⟩ : G_far_walk)) hx3 rfl (.cons 0 rfl (by nofun) .nil) (.cons 0 rfl .nil) (hG := fun G e => trivial)) fun v H o => J.Out.take 1 o
structure G_faults where
  a0 : (List Int)
  a1 : Int
  out : Int
abbrev R_faults {K : PySem.W.Frag} {mg : Str → Option Value} (W : Wd K mg) (r : Int) : J.Slot := (sV9 (r : Int))
abbrev C_faults {K : PySem.W.Frag} {mg : Str → Option Value} (W : Wd K mg) (a0 : (List Int)) (a1 : Int) (r : Int) : List (PySem.Addr × J.Cel) := [((He.cT K ("farthest", none)).2, (J.Cel.say (J.tabC ((("farthest" : St9) ++ ".<locals>.") ++ "<lambda>"))))]
abbrev A_faults {K : PySem.W.Frag} {mg : Str → Option Value} (W : Wd K mg) (a0 : (List Int)) (a1 : Int) : List J.Slot := [(sV9 (a0 : (List Int))), (sV9 (a1 : Int)), (sV9 (("far" : St9) : St9))]
abbrev D_faults {K : PySem.W.Frag} {mg : Str → Option Value} (W : Wd K mg) (a0 : (List Int)) (a1 : Int) : List (PySem.Addr × J.Cel) := [((He.cT K ("farthest", none)).2, (J.Cel.say (J.tabC ((("farthest" : St9) ++ ".<locals>.") ++ "<lambda>"))))]
def F_faults {K : PySem.W.Frag} {mg : Str → Option Value} (W : Wd K mg)  : J.FS G_faults where
  pre := fun g => m_faults g.a0 g.a1 = some g.out
  preG := fun _ _ => True
  args := fun g => A_faults W g.a0 g.a1
  cells := fun g => D_faults W g.a0 g.a1
  res := fun g => R_faults W g.out
  cells' := fun g => C_faults W g.a0 g.a1 g.out
theorem ok_faults (W : Wd K mg) : FnOk P w K mg base CX0 6 W.a_faults W.d_faults ["trace", "room", "rule"] (F_faults (W)).sp := by
  refine J.fn_okD (F_faults (W)) W.F_faults sc_faults (fun g => rfl) (fun g => by intro s hs; simp only [F_faults, List.mem_cons, List.not_mem_nil, or_false] at hs; rcases hs with rfl | rfl | rfl <;> first | rfl | exact J.xsl_plain) (fun cdv A outer s H E hr B g h hG => ?_)
  have hN := (sc_faults).nd
  obtain ⟨a0, a1, r0⟩ := g
  change m_faults a0 a1 = some r0 at h
  unfold m_faults at h
  change J.JS _ B (⟨[(sV9 (a0 : (List Int))), (sV9 (a1 : Int)), (sV9 (("far" : St9) : St9)), sA9, sA9, sA9], [((He.cT K ("farthest", none)).2, (J.Cel.say (J.tabC ((("farthest" : St9) ++ ".<locals>.") ++ "<lambda>"))))]⟩ : J.Stt) _ (J.fend B (F_faults (W)) ⟨a0, a1, r0⟩)
  obtain ⟨x1, hx1, h⟩ := J.bndE h
  obtain ⟨x5, hx5, h⟩ := J.bndE h
  have h9 := Option.some.inj h
  subst h9
  exact J.js_ret (J.je_len (n := "len") (xs := x5.1) W.l_len (J.je_lc (f := m_faults_c0) (el := sV9) (Sf := fun (s2 : Unit) => (⟨[(sV9 (a0 : (List Int))), (sV9 (a1 : Int)), (sV9 (("far" : St9) : St9)), sA9, sA9, sA9], [((He.cT K ("farthest", none)).2, (J.Cel.say (J.tabC ((("farthest" : St9) ++ ".<locals>.") ++ "<lambda>"))))]⟩ : J.Stt)) (Sb := fun (s2 : Unit) (x4 : (PySem.W.T3 Int St9 (Option Int))) => (⟨[(sV9 (a0 : (List Int))), (sV9 (a1 : Int)), (sV9 (("far" : St9) : St9)), (sV9 (x4.a : Int)), (sV9 (x4.b : St9)), (sV9 (x4.c : (Option Int)))], [((He.cT K ("farthest", none)).2, (J.Cel.say (J.tabC ((("farthest" : St9) ++ ".<locals>.") ++ "<lambda>"))))]⟩ : J.Stt)) (s0 := ()) (own := [(("page" : St9), 3), (("word" : St9), 4), (("gone" : St9), 5)]) (ws := [3, 4, 5]) (J.lcM_of hx5).2 (J.lcM_of hx5).1 hN (L2.blkOk_by (N := ["trace", "room", "rule", "page", "word", "gone"]) (sc := defScope s_faults) (by decide +kernel)) (J.ji_own (xs := x1) (J.je_callN (f := F_walk W) (ok_walk (base := base) W) hr (by decide) W.g_walk W.F_walk.kp (kbe_walk_0 W) (J.ja_cons (J.je_var 0 rfl) (J.ja_cons (J.je_var 1 rfl) J.ja_nil)) (J.jk_cons (J.je_var 2 rfl) J.jk_nil) (g := (⟨a0, a1, x1⟩ : G_walk)) hx1 rfl rfl (fun {T} {σ} {vs} {ws} {tv} {H} hl hl2 h => by
      match vs, ws, hl, hl2, h with
      | [v0, v1], [w0], _, _, h =>
        have h := J.Sta.rot (xs := [_, _]) (T := [] ++ T) (vs := [w0, v0]) (u := v1) (tv := [] ++ tv) rfl h
        have h := J.Sta.rot (xs := [_, _]) (T := [] ++ T) (vs := [v1, w0]) (u := v0) (tv := [] ++ tv) rfl h
        exact ⟨rfl, h⟩) (.cons 0 rfl (by nofun) .nil) (.cons 0 rfl .nil) (hG := fun G e => trivial))) (J.le_fgt 1 (.keep (.keep (.keep (.drop (.drop (.drop .nil)))))) rfl) (fun _ => trivial) (fun _ => J.any_at rfl) (by decide) (fun s2 x4 => fun s91 H91 C91 cl91 fp91 =>  J.inJG hN fun hN => (J.jg_t3 (J.jgs_cons (J.jg_name 3 (hN := hN)) (J.jgs_cons (J.jg_name 4 (hN := hN)) (J.jgs_cons (J.jg_name 5 (hN := hN)) J.jgs_nil))))) (fun s2 x4 o sZ _ h => by
      unfold m_faults_c0 at h
      by_cases hp : (decide (x4.b = ("fault" : St9))) = true
      · replace h := J.ifT hp h
        obtain ⟨h8, h9⟩ := Prod.mk.inj (Option.some.inj h)
        subst h8
        subst h9
        exact ⟨true, _, (fun s91 H91 C91 cl91 fp91 =>  J.inJTs hr hN fun hr hN => J.jts_one (J.jt_eq (J.jt_eq' (t := (x4.b : St9)) (r := (("fault" : St9) : St9)) hr (J.je_var 4 rfl) J.je_str J.dv_val J.dv_val) hp)), fun _ => ⟨_, _, rfl, (fun s91 H91 C91 cl91 fp91 =>  J.inJE hr hN fun hr hN => (J.je_var 3 rfl)), (J.le_fgt 1 (.keep (.keep (.keep (.drop (.drop (.drop .nil)))))) rfl)⟩, nofun⟩
      · rw [Bool.not_eq_true] at hp
        replace h := J.ifF hp h
        obtain ⟨h8, h9⟩ := Prod.mk.inj (Option.some.inj h)
        subst h8
        subst h9
        exact ⟨false, _, (fun s91 H91 C91 cl91 fp91 =>  J.inJTs hr hN fun hr hN => J.jts_one (J.jt_eq (J.jt_eq' (t := (x4.b : St9)) (r := (("fault" : St9) : St9)) hr (J.je_var 4 rfl) J.je_str J.dv_val J.dv_val) hp)), nofun, fun _ => ⟨rfl, (J.le_fgt 1 (.keep (.keep (.keep (.drop (.drop (.drop .nil)))))) rfl)⟩⟩)) J.lv_own') fun v H o => J.Out.take 1 o
structure G_fewest where
  a0 : (List Int)
  a1 : Int
  out : Int
abbrev R_fewest {K : PySem.W.Frag} {mg : Str → Option Value} (W : Wd K mg) (r : Int) : J.Slot := (sV9 (r : Int))
abbrev C_fewest {K : PySem.W.Frag} {mg : Str → Option Value} (W : Wd K mg) (a0 : (List Int)) (a1 : Int) (r : Int) : List (PySem.Addr × J.Cel) := [((He.cT K ("farthest", none)).2, (J.Cel.say (J.tabC ((("farthest" : St9) ++ ".<locals>.") ++ "<lambda>"))))]
abbrev A_fewest {K : PySem.W.Frag} {mg : Str → Option Value} (W : Wd K mg) (a0 : (List Int)) (a1 : Int) : List J.Slot := [(sV9 (a0 : (List Int))), (sV9 (a1 : Int))]
abbrev D_fewest {K : PySem.W.Frag} {mg : Str → Option Value} (W : Wd K mg) (a0 : (List Int)) (a1 : Int) : List (PySem.Addr × J.Cel) := [((He.cT K ("farthest", none)).2, (J.Cel.say (J.tabC ((("farthest" : St9) ++ ".<locals>.") ++ "<lambda>"))))]
def F_fewest {K : PySem.W.Frag} {mg : Str → Option Value} (W : Wd K mg)  : J.FS G_fewest where
  pre := fun g => m_fewest g.a0 g.a1 = some g.out
  preG := fun _ _ => True
  args := fun g => A_fewest W g.a0 g.a1
  cells := fun g => D_fewest W g.a0 g.a1
  res := fun g => R_fewest W g.out
  cells' := fun g => C_fewest W g.a0 g.a1 g.out
theorem ok_fewest (W : Wd K mg) : FnOk P w K mg base CX0 7 W.a_fewest W.d_fewest ["trace", "room"] (F_fewest (W)).sp := by
  refine J.fn_okD (F_fewest (W)) W.F_fewest sc_fewest (fun g => rfl) (fun g => by intro s hs; simp only [F_fewest, List.mem_cons, List.not_mem_nil, or_false] at hs; rcases hs with rfl | rfl <;> first | rfl | exact J.xsl_plain) (fun cdv A outer s H E hr B g h hG => ?_)
  have hN := (sc_fewest).nd
  obtain ⟨a0, a1, r0⟩ := g
  change m_fewest a0 a1 = some r0 at h
  unfold m_fewest at h
  change J.JS _ B (⟨[(sV9 (a0 : (List Int))), (sV9 (a1 : Int))], [((He.cT K ("farthest", none)).2, (J.Cel.say (J.tabC ((("farthest" : St9) ++ ".<locals>.") ++ "<lambda>"))))]⟩ : J.Stt) _ (J.fend B (F_fewest (W)) ⟨a0, a1, r0⟩)
  obtain ⟨x1, hx1, h⟩ := J.bndE h
  have h9 := Option.some.inj h
  subst h9
  exact J.js_ret (J.je_callN (f := F_faults W) (ok_faults (base := base) W) hr (by decide) W.g_faults W.F_faults.kp (kbe_faults_1 W) (J.ja_cons (J.je_var 0 rfl) (J.ja_cons (J.je_var 1 rfl) J.ja_nil)) (J.jk_cons J.je_str J.jk_nil) (g := (⟨a0, a1, x1⟩ : G_faults)) hx1 rfl rfl (fun {T} {σ} {vs} {ws} {tv} {H} hl hl2 h => by
      match vs, ws, hl, hl2, h with
      | [v0, v1], [w0], _, _, h =>
        have h := J.Sta.rot (xs := [_, _]) (T := [] ++ T) (vs := [w0, v0]) (u := v1) (tv := [] ++ tv) rfl h
        have h := J.Sta.rot (xs := [_, _]) (T := [] ++ T) (vs := [v1, w0]) (u := v0) (tv := [] ++ tv) rfl h
        exact ⟨rfl, h⟩) (.cons 0 rfl (by nofun) .nil) (.cons 0 rfl .nil) (hG := fun G e => trivial)) fun v H o => J.Out.take 1 o
structure G_law_fewest where
  a0 : (List Int)
  a1 : Int
  out : Int
abbrev R_law_fewest {K : PySem.W.Frag} {mg : Str → Option Value} (W : Wd K mg) (r : Int) : J.Slot := (sV9 (r : Int))
abbrev C_law_fewest {K : PySem.W.Frag} {mg : Str → Option Value} (W : Wd K mg) (a0 : (List Int)) (a1 : Int) (r : Int) : List (PySem.Addr × J.Cel) := []
abbrev A_law_fewest {K : PySem.W.Frag} {mg : Str → Option Value} (W : Wd K mg) (a0 : (List Int)) (a1 : Int) : List J.Slot := [(sV9 (a0 : (List Int))), (sV9 (a1 : Int))]
abbrev D_law_fewest {K : PySem.W.Frag} {mg : Str → Option Value} (W : Wd K mg) (a0 : (List Int)) (a1 : Int) : List (PySem.Addr × J.Cel) := []
def F_law_fewest {K : PySem.W.Frag} {mg : Str → Option Value} (W : Wd K mg)  : J.FS G_law_fewest where
  pre := fun g => m_law_fewest g.a0 g.a1 = some g.out
  preG := fun _ _ => True
  args := fun g => A_law_fewest W g.a0 g.a1
  cells := fun g => D_law_fewest W g.a0 g.a1
  res := fun g => R_law_fewest W g.out
  cells' := fun g => C_law_fewest W g.a0 g.a1 g.out
theorem ok_law_fewest (W : Wd K mg) : FnOk P w K mg base CX0 1 W.a__law_fewest W.d__law_fewest ["line", "size"] (F_law_fewest (W)).sp := by
  refine J.fn_okD (F_law_fewest (W)) W.F__law_fewest sc__law_fewest (fun g => rfl) (fun g => by intro s hs; simp only [F_law_fewest, List.mem_cons, List.not_mem_nil, or_false] at hs; rcases hs with rfl | rfl <;> first | rfl | exact J.xsl_plain) (fun cdv A outer s H E hr B g h hG => ?_)
  have hN := (sc__law_fewest).nd
  obtain ⟨a0, a1, r0⟩ := g
  change m_law_fewest a0 a1 = some r0 at h
  unfold m_law_fewest at h
  change J.JS _ B (⟨[(sV9 (a0 : (List Int))), (sV9 (a1 : Int)), sA9, sA9, sA9, sA9, sA9, sA9, sA9, sA9, sA9, sA9], []⟩ : J.Stt) _ (J.fend B (F_law_fewest (W)) ⟨a0, a1, r0⟩)
  refine J.js_new (hN := hN) 2 (J.DU.je_dispU1 (key := (PySem.W.Tup.mk [] : PySem.W.Tup Int)) (t := (0 : Int)) hr (J.je_tupv (xs := ([] : List Int)) J.ja_nil) J.je_int) fun p1 => ?_
  obtain ⟨s70, hs70, h⟩ := J.bndE h
  refine J.js_forE (π := PySem.Addr) (f := m_law_fewest_b6 a1) (Sf := fun (q3 : PySem.Addr) (s2 : (List (J.DU.P3 × Int))) => (⟨[(sV9 (a0 : (List Int))), (sV9 (a1 : Int)), (sR9 (.ref q3)), sA9, sA9, sA9, sA9, sA9, sA9, sA9, sA9, sA9], [(q3, (J.Cel.say (J.DU.dtC (s2 : List (J.DU.P3 × Int)))))]⟩ : J.Stt)) (Sb := fun (q3 : PySem.Addr) (s2 : (List (J.DU.P3 × Int))) (x4 : Int) => (⟨[(sV9 (a0 : (List Int))), (sV9 (a1 : Int)), (sR9 (.ref q3)), (sV9 (x4 : Int)), sA9, sA9, sA9, sA9, sA9, sA9, sA9, sA9], [(q3, (J.Cel.say (J.DU.dtC (s2 : List (J.DU.P3 × Int)))))]⟩ : J.Stt)) hs70 (J.ji_val (xs := a0) (J.je_var 0 rfl)) (fun _ _ _ _ g => ⟨p1, J.le_fgt (sl := [(sV9 (a0 : (List Int))), (sV9 (a1 : Int)), (sR9 (.ref p1)), sA9, sA9, sA9, sA9, sA9, sA9, sA9, sA9, sA9]) (cs := [(p1, (J.Cel.say (J.DU.dtC (([((PySem.W.Tup.mk [] : PySem.W.Tup Int), 0)] : List (J.DU.P3 × Int)) : List (J.DU.P3 × Int)))))]) 1 (.keep (.keep (.keep (.drop (.drop (.drop (.drop (.drop (.drop (.drop (.drop (.drop .nil)))))))))))) rfl _ _ _ _ g⟩) (fun _ _ => trivial) (fun q3 s2 x4 => (J.jg_name 3 (hN := hN))) (fun q3 s2 x4 sY _ h => ?_) (fun q3 => ?_)
  · unfold m_law_fewest_b6 at h
    change J.JS _ _ (⟨[(sV9 (a0 : (List Int))), (sV9 (a1 : Int)), (sR9 (.ref q3)), (sV9 (x4 : Int)), sA9, sA9, sA9, sA9, sA9, sA9, sA9, sA9], [(q3, (J.Cel.say (J.DU.dtC (s2 : List (J.DU.P3 × Int)))))]⟩ : J.Stt) _ _
    refine J.js_new (hN := hN) 4 (J.DU.je_dispT0 (β := Int)) fun p9 => ?_
    obtain ⟨s69, hs69, h⟩ := J.bndE h
    refine J.js_forE (π := Unit) (f := m_law_fewest_b5 a1 s2 x4) (Sf := fun (q11 : Unit) (s10 : (List (J.DU.P3 × Int))) => (⟨[(sV9 (a0 : (List Int))), (sV9 (a1 : Int)), (sR9 (.ref q3)), (sV9 (x4 : Int)), (sR9 (.ref p9)), sA9, sA9, sA9, sA9, sA9, sA9, sA9], [(q3, (J.Cel.say (J.DU.dtC (s2 : List (J.DU.P3 × Int))))), (p9, (J.Cel.say (J.DU.dtC (s10 : List (J.DU.P3 × Int)))))]⟩ : J.Stt)) (Sb := fun (q11 : Unit) (s10 : (List (J.DU.P3 × Int))) (x12 : (PySem.W.Tup Int)) => (⟨[(sV9 (a0 : (List Int))), (sV9 (a1 : Int)), (sR9 (.ref q3)), (sV9 (x4 : Int)), (sR9 (.ref p9)), (sV9 (x12 : (PySem.W.Tup Int))), sA9, sA9, sA9, sA9, sA9, sA9], [(q3, (J.Cel.say (J.DU.dtC (s2 : List (J.DU.P3 × Int))))), (p9, (J.Cel.say (J.DU.dtC (s10 : List (J.DU.P3 × Int)))))]⟩ : J.Stt)) hs69 (J.ji_own (xs := ((s2 : (List (J.DU.P3 × Int))).map (·.1))) (J.DU.je_listU (m := (s2 : (List (J.DU.P3 × Int)))) 0 W.l_list (J.je_var 2 rfl) rfl)) (fun _ _ _ _ g => ⟨(), J.le_fgt (sl := [(sV9 (a0 : (List Int))), (sV9 (a1 : Int)), (sR9 (.ref q3)), (sV9 (x4 : Int)), (sR9 (.ref p9)), sA9, sA9, sA9, sA9, sA9, sA9, sA9]) (cs := [(q3, (J.Cel.say (J.DU.dtC (s2 : List (J.DU.P3 × Int))))), (p9, (J.Cel.say (J.DU.dtC (([] : List (J.DU.P3 × Int)) : List (J.DU.P3 × Int)))))]) 2 (.keep (.keep (.keep (.keep (.keep (.drop (.drop (.drop (.drop (.drop (.drop (.drop .nil)))))))))))) rfl _ _ _ _ g⟩) (fun _ _ => trivial) (fun q11 s10 x12 => (J.jg_name 5 (hN := hN))) (fun q11 s10 x12 sY _ h => ?_) (fun q11 => ?_)
    · unfold m_law_fewest_b5 at h
      change J.JS _ _ (⟨[(sV9 (a0 : (List Int))), (sV9 (a1 : Int)), (sR9 (.ref q3)), (sV9 (x4 : Int)), (sR9 (.ref p9)), (sV9 (x12 : (PySem.W.Tup Int))), sA9, sA9, sA9, sA9, sA9, sA9], [(q3, (J.Cel.say (J.DU.dtC (s2 : List (J.DU.P3 × Int))))), (p9, (J.Cel.say (J.DU.dtC (s10 : List (J.DU.P3 × Int)))))]⟩ : J.Stt) _ _
      refine J.js_if (J.jt_inTI (t := x4) (u := x12) (J.je_var 3 rfl) (J.je_var 5 rfl)) (fun hp => ?_) (fun hp => ?_)
      · replace h := J.ifT hp h
        obtain ⟨x17, hx17, h⟩ := J.bndE h
        refine J.js_new (hN := hN) 6 (J.je_lstv (xs := ([(x12, x17)] : List ((PySem.W.Tup Int) × Int))) (J.ja_cons (J.je_tup (t := ((x12, x17) : ((PySem.W.Tup Int) × Int))) (J.ja_cons (J.je_var 5 rfl) (J.ja_cons (J.DU.je_dgetT (m := (s2 : (List (J.DU.P3 × Int)))) (key := x12) 0 hr (J.je_var 2 rfl) (J.je_var 5 rfl) rfl hx17) J.ja_nil)) (J.SlDs.cons J.sld_val (J.SlDs.cons J.sld_val J.SlDs.nil)) rfl (Nat.le_of_ble_eq_true rfl)) J.ja_nil)) fun p18 => ?_
        refine J.js_end ?_
        change J.JS _ _ (⟨[(sV9 (a0 : (List Int))), (sV9 (a1 : Int)), (sR9 (.ref q3)), (sV9 (x4 : Int)), (sR9 (.ref p9)), (sV9 (x12 : (PySem.W.Tup Int))), (sR9 (.ref p18)), sA9, sA9, sA9, sA9, sA9], [(q3, (J.Cel.say (J.DU.dtC (s2 : List (J.DU.P3 × Int))))), (p9, (J.Cel.say (J.DU.dtC (s10 : List (J.DU.P3 × Int))))), (p18, (cL9 ((([(x12, x17)] : List ((PySem.W.Tup Int) × Int)) : List ((PySem.W.Tup Int) × Int)).map sV9)))]⟩ : J.Stt) _ _
        obtain ⟨s28, hs28, h⟩ := J.bndE h
        refine J.js_forE (π := Unit) (f := m_law_fewest_b0) (Sf := fun (q20 : Unit) (s19 : (List (J.DU.P3 × Int))) => (⟨[(sV9 (a0 : (List Int))), (sV9 (a1 : Int)), (sR9 (.ref q3)), (sV9 (x4 : Int)), (sR9 (.ref p9)), (sV9 (x12 : (PySem.W.Tup Int))), (sR9 (.ref p18)), sA9, sA9, sA9, sA9, sA9], [(q3, (J.Cel.say (J.DU.dtC (s2 : List (J.DU.P3 × Int))))), (p9, (J.Cel.say (J.DU.dtC (s19 : List (J.DU.P3 × Int))))), (p18, (cL9 ((([(x12, x17)] : List ((PySem.W.Tup Int) × Int)) : List ((PySem.W.Tup Int) × Int)).map sV9)))]⟩ : J.Stt)) (Sb := fun (q20 : Unit) (s19 : (List (J.DU.P3 × Int))) (x21 : ((PySem.W.Tup Int) × Int)) => (⟨[(sV9 (a0 : (List Int))), (sV9 (a1 : Int)), (sR9 (.ref q3)), (sV9 (x4 : Int)), (sR9 (.ref p9)), (sV9 (x12 : (PySem.W.Tup Int))), (sR9 (.ref p18)), (sV9 (x21.1 : (PySem.W.Tup Int))), (sV9 (x21.2 : Int)), sA9, sA9, sA9], [(q3, (J.Cel.say (J.DU.dtC (s2 : List (J.DU.P3 × Int))))), (p9, (J.Cel.say (J.DU.dtC (s19 : List (J.DU.P3 × Int))))), (p18, (cL9 ((([(x12, x17)] : List ((PySem.W.Tup Int) × Int)) : List ((PySem.W.Tup Int) × Int)).map sV9)))]⟩ : J.Stt)) hs28 (J.ji_cell (xs := ([(x12, x17)] : List ((PySem.W.Tup Int) × Int))) 2 (J.je_var 6 rfl) rfl) (fun _ _ _ _ g => ⟨(), J.le_fgt (sl := [(sV9 (a0 : (List Int))), (sV9 (a1 : Int)), (sR9 (.ref q3)), (sV9 (x4 : Int)), (sR9 (.ref p9)), (sV9 (x12 : (PySem.W.Tup Int))), (sR9 (.ref p18)), sA9, sA9, sA9, sA9, sA9]) (cs := [(q3, (J.Cel.say (J.DU.dtC (s2 : List (J.DU.P3 × Int))))), (p9, (J.Cel.say (J.DU.dtC (s10 : List (J.DU.P3 × Int))))), (p18, (cL9 ((([(x12, x17)] : List ((PySem.W.Tup Int) × Int)) : List ((PySem.W.Tup Int) × Int)).map sV9)))]) 3 (.keep (.keep (.keep (.keep (.keep (.keep (.keep (.drop (.drop (.drop (.drop (.drop .nil)))))))))))) rfl _ _ _ _ g⟩) (fun _ _ => rfl) (fun q20 s19 x21 => (J.jg_pair (J.jgs_cons (J.jg_name 7 (hN := hN)) (J.jgs_cons (J.jg_name 8 (hN := hN)) J.jgs_nil)))) (fun q20 s19 x21 sY _ h => ?_) (fun q20 => ?_)
        · unfold m_law_fewest_b0 at h
          change J.JS _ _ (⟨[(sV9 (a0 : (List Int))), (sV9 (a1 : Int)), (sR9 (.ref q3)), (sV9 (x4 : Int)), (sR9 (.ref p9)), (sV9 (x12 : (PySem.W.Tup Int))), (sR9 (.ref p18)), (sV9 (x21.1 : (PySem.W.Tup Int))), (sV9 (x21.2 : Int)), sA9, sA9, sA9], [(q3, (J.Cel.say (J.DU.dtC (s2 : List (J.DU.P3 × Int))))), (p9, (J.Cel.say (J.DU.dtC (s19 : List (J.DU.P3 × Int))))), (p18, (cL9 ((([(x12, x17)] : List ((PySem.W.Tup Int) × Int)) : List ((PySem.W.Tup Int) × Int)).map sV9)))]⟩ : J.Stt) _ _
          obtain ⟨x26, hx26, h⟩ := J.bndE h
          obtain ⟨x27, hx27, h⟩ := J.bndE h
          refine J.DU.js_dputT (m := s19) (key := x21.1) 1 hr (J.je_let (J.je_min2 W.l_min (J.je_var 8 rfl) (J.DU.je_getT2 (m := s19) (m0 := s19) (key := x21.1) (t := (x21.2 : Int)) 1 hr (J.je_var 4 rfl) rfl (J.je_var 7 rfl) (J.je_var 8 rfl) rfl)) hx26) (J.je_var 4 rfl) (J.je_var 7 rfl) rfl hx27 ?_
          change J.JS _ _ (⟨[(sV9 (a0 : (List Int))), (sV9 (a1 : Int)), (sR9 (.ref q3)), (sV9 (x4 : Int)), (sR9 (.ref p9)), (sV9 (x12 : (PySem.W.Tup Int))), (sR9 (.ref p18)), (sV9 (x21.1 : (PySem.W.Tup Int))), (sV9 (x21.2 : Int)), sA9, sA9, sA9], [(q3, (J.Cel.say (J.DU.dtC (s2 : List (J.DU.P3 × Int))))), (p9, (J.Cel.say (J.DU.dtC (x27 : List (J.DU.P3 × Int))))), (p18, (cL9 ((([(x12, x17)] : List ((PySem.W.Tup Int) × Int)) : List ((PySem.W.Tup Int) × Int)).map sV9)))]⟩ : J.Stt) _ _
          have h9 := Option.some.inj h
          subst h9
          exact J.js_nil fun T tv σ H g => ⟨(), J.le_fgt (sl := [(sV9 (a0 : (List Int))), (sV9 (a1 : Int)), (sR9 (.ref q3)), (sV9 (x4 : Int)), (sR9 (.ref p9)), (sV9 (x12 : (PySem.W.Tup Int))), (sR9 (.ref p18)), sA9, sA9, sA9, sA9, sA9]) (cs := [(q3, (J.Cel.say (J.DU.dtC (s2 : List (J.DU.P3 × Int))))), (p9, (J.Cel.say (J.DU.dtC (x27 : List (J.DU.P3 × Int))))), (p18, (cL9 ((([(x12, x17)] : List ((PySem.W.Tup Int) × Int)) : List ((PySem.W.Tup Int) × Int)).map sV9)))]) 3 (.keep (.keep (.keep (.keep (.keep (.keep (.keep (.drop (.drop (.drop (.drop (.drop .nil)))))))))))) rfl _ _ _ _ g⟩
        change J.JS _ _ (⟨[(sV9 (a0 : (List Int))), (sV9 (a1 : Int)), (sR9 (.ref q3)), (sV9 (x4 : Int)), (sR9 (.ref p9)), (sV9 (x12 : (PySem.W.Tup Int))), (sR9 (.ref p18)), sA9, sA9, sA9, sA9, sA9], [(q3, (J.Cel.say (J.DU.dtC (s2 : List (J.DU.P3 × Int))))), (p9, (J.Cel.say (J.DU.dtC (s28 : List (J.DU.P3 × Int))))), (p18, (cL9 ((([(x12, x17)] : List ((PySem.W.Tup Int) × Int)) : List ((PySem.W.Tup Int) × Int)).map sV9)))]⟩ : J.Stt) _ _
        have h9 := Option.some.inj h
        subst h9
        exact J.js_nil fun T tv σ H g => ⟨(), J.le_fgt (sl := [(sV9 (a0 : (List Int))), (sV9 (a1 : Int)), (sR9 (.ref q3)), (sV9 (x4 : Int)), (sR9 (.ref p9)), sA9, sA9, sA9, sA9, sA9, sA9, sA9]) (cs := [(q3, (J.Cel.say (J.DU.dtC (s2 : List (J.DU.P3 × Int))))), (p9, (J.Cel.say (J.DU.dtC (s28 : List (J.DU.P3 × Int)))))]) 2 (.keep (.keep (.keep (.keep (.keep (.drop (.drop (.drop (.drop (.drop (.drop (.drop .nil)))))))))))) rfl _ _ _ _ g⟩
      · replace h := J.ifF hp h
        refine J.js_if (J.jt_lt (J.je_lenTI (u := x12) W.l_len (J.je_var 5 rfl)) (J.je_var 1 rfl)) (fun hp => ?_) (fun hp => ?_)
        · replace h := J.ifT hp h
          obtain ⟨x29, hx29, h⟩ := J.bndE h
          obtain ⟨x30, hx30, h⟩ := J.bndE h
          refine J.js_new (hN := hN) 6 (J.je_lstv (xs := ([((PySem.W.Tup.mk ((J.sortI (x29).items) : List Int)), (x30 + 1))] : List ((PySem.W.Tup Int) × Int))) (J.ja_cons (J.je_tup (t := (((PySem.W.Tup.mk ((J.sortI (x29).items) : List Int)), (x30 + 1)) : ((PySem.W.Tup Int) × Int))) (J.ja_cons (J.je_tupL (xs := ((J.sortI (x29).items) : List Int)) W.l_tuple (J.je_sortUG (t := x29) W.l_sorted (J.je_catUG (t := x12) (u := (PySem.W.Tup.mk ([x4] : List Int))) (J.je_var 5 rfl) (J.je_tupv (xs := ([x4] : List Int)) (J.ja_cons (J.je_var 3 rfl) J.ja_nil)) hx29)) J.lv_own') (J.ja_cons (J.je_add (J.DU.je_dgetT (m := (s2 : (List (J.DU.P3 × Int)))) (key := x12) 0 hr (J.je_var 2 rfl) (J.je_var 5 rfl) rfl hx30) J.je_int) J.ja_nil)) (J.SlDs.cons J.sld_val (J.SlDs.cons J.sld_val J.SlDs.nil)) rfl (Nat.le_of_ble_eq_true rfl)) J.ja_nil)) fun p31 => ?_
          refine J.js_end ?_
          change J.JS _ _ (⟨[(sV9 (a0 : (List Int))), (sV9 (a1 : Int)), (sR9 (.ref q3)), (sV9 (x4 : Int)), (sR9 (.ref p9)), (sV9 (x12 : (PySem.W.Tup Int))), (sR9 (.ref p31)), sA9, sA9, sA9, sA9, sA9], [(q3, (J.Cel.say (J.DU.dtC (s2 : List (J.DU.P3 × Int))))), (p9, (J.Cel.say (J.DU.dtC (s10 : List (J.DU.P3 × Int))))), (p31, (cL9 ((([((PySem.W.Tup.mk ((J.sortI (x29).items) : List Int)), (x30 + 1))] : List ((PySem.W.Tup Int) × Int)) : List ((PySem.W.Tup Int) × Int)).map sV9)))]⟩ : J.Stt) _ _
          refine J.js_end ?_
          change J.JS _ _ (⟨[(sV9 (a0 : (List Int))), (sV9 (a1 : Int)), (sR9 (.ref q3)), (sV9 (x4 : Int)), (sR9 (.ref p9)), (sV9 (x12 : (PySem.W.Tup Int))), (sR9 (.ref p31)), sA9, sA9, sA9, sA9, sA9], [(q3, (J.Cel.say (J.DU.dtC (s2 : List (J.DU.P3 × Int))))), (p9, (J.Cel.say (J.DU.dtC (s10 : List (J.DU.P3 × Int))))), (p31, (cL9 ((([((PySem.W.Tup.mk ((J.sortI (x29).items) : List Int)), (x30 + 1))] : List ((PySem.W.Tup Int) × Int)) : List ((PySem.W.Tup Int) × Int)).map sV9)))]⟩ : J.Stt) _ _
          obtain ⟨s41, hs41, h⟩ := J.bndE h
          refine J.js_forE (π := Unit) (f := m_law_fewest_b1) (Sf := fun (q33 : Unit) (s32 : (List (J.DU.P3 × Int))) => (⟨[(sV9 (a0 : (List Int))), (sV9 (a1 : Int)), (sR9 (.ref q3)), (sV9 (x4 : Int)), (sR9 (.ref p9)), (sV9 (x12 : (PySem.W.Tup Int))), (sR9 (.ref p31)), sA9, sA9, sA9, sA9, sA9], [(q3, (J.Cel.say (J.DU.dtC (s2 : List (J.DU.P3 × Int))))), (p9, (J.Cel.say (J.DU.dtC (s32 : List (J.DU.P3 × Int))))), (p31, (cL9 ((([((PySem.W.Tup.mk ((J.sortI (x29).items) : List Int)), (x30 + 1))] : List ((PySem.W.Tup Int) × Int)) : List ((PySem.W.Tup Int) × Int)).map sV9)))]⟩ : J.Stt)) (Sb := fun (q33 : Unit) (s32 : (List (J.DU.P3 × Int))) (x34 : ((PySem.W.Tup Int) × Int)) => (⟨[(sV9 (a0 : (List Int))), (sV9 (a1 : Int)), (sR9 (.ref q3)), (sV9 (x4 : Int)), (sR9 (.ref p9)), (sV9 (x12 : (PySem.W.Tup Int))), (sR9 (.ref p31)), (sV9 (x34.1 : (PySem.W.Tup Int))), (sV9 (x34.2 : Int)), sA9, sA9, sA9], [(q3, (J.Cel.say (J.DU.dtC (s2 : List (J.DU.P3 × Int))))), (p9, (J.Cel.say (J.DU.dtC (s32 : List (J.DU.P3 × Int))))), (p31, (cL9 ((([((PySem.W.Tup.mk ((J.sortI (x29).items) : List Int)), (x30 + 1))] : List ((PySem.W.Tup Int) × Int)) : List ((PySem.W.Tup Int) × Int)).map sV9)))]⟩ : J.Stt)) hs41 (J.ji_cell (xs := ([((PySem.W.Tup.mk ((J.sortI (x29).items) : List Int)), (x30 + 1))] : List ((PySem.W.Tup Int) × Int))) 2 (J.je_var 6 rfl) rfl) (fun _ _ _ _ g => ⟨(), J.le_fgt (sl := [(sV9 (a0 : (List Int))), (sV9 (a1 : Int)), (sR9 (.ref q3)), (sV9 (x4 : Int)), (sR9 (.ref p9)), (sV9 (x12 : (PySem.W.Tup Int))), (sR9 (.ref p31)), sA9, sA9, sA9, sA9, sA9]) (cs := [(q3, (J.Cel.say (J.DU.dtC (s2 : List (J.DU.P3 × Int))))), (p9, (J.Cel.say (J.DU.dtC (s10 : List (J.DU.P3 × Int))))), (p31, (cL9 ((([((PySem.W.Tup.mk ((J.sortI (x29).items) : List Int)), (x30 + 1))] : List ((PySem.W.Tup Int) × Int)) : List ((PySem.W.Tup Int) × Int)).map sV9)))]) 3 (.keep (.keep (.keep (.keep (.keep (.keep (.keep (.drop (.drop (.drop (.drop (.drop .nil)))))))))))) rfl _ _ _ _ g⟩) (fun _ _ => rfl) (fun q33 s32 x34 => (J.jg_pair (J.jgs_cons (J.jg_name 7 (hN := hN)) (J.jgs_cons (J.jg_name 8 (hN := hN)) J.jgs_nil)))) (fun q33 s32 x34 sY _ h => ?_) (fun q33 => ?_)
          · unfold m_law_fewest_b1 at h
            change J.JS _ _ (⟨[(sV9 (a0 : (List Int))), (sV9 (a1 : Int)), (sR9 (.ref q3)), (sV9 (x4 : Int)), (sR9 (.ref p9)), (sV9 (x12 : (PySem.W.Tup Int))), (sR9 (.ref p31)), (sV9 (x34.1 : (PySem.W.Tup Int))), (sV9 (x34.2 : Int)), sA9, sA9, sA9], [(q3, (J.Cel.say (J.DU.dtC (s2 : List (J.DU.P3 × Int))))), (p9, (J.Cel.say (J.DU.dtC (s32 : List (J.DU.P3 × Int))))), (p31, (cL9 ((([((PySem.W.Tup.mk ((J.sortI (x29).items) : List Int)), (x30 + 1))] : List ((PySem.W.Tup Int) × Int)) : List ((PySem.W.Tup Int) × Int)).map sV9)))]⟩ : J.Stt) _ _
            obtain ⟨x39, hx39, h⟩ := J.bndE h
            obtain ⟨x40, hx40, h⟩ := J.bndE h
            refine J.DU.js_dputT (m := s32) (key := x34.1) 1 hr (J.je_let (J.je_min2 W.l_min (J.je_var 8 rfl) (J.DU.je_getT2 (m := s32) (m0 := s32) (key := x34.1) (t := (x34.2 : Int)) 1 hr (J.je_var 4 rfl) rfl (J.je_var 7 rfl) (J.je_var 8 rfl) rfl)) hx39) (J.je_var 4 rfl) (J.je_var 7 rfl) rfl hx40 ?_
            change J.JS _ _ (⟨[(sV9 (a0 : (List Int))), (sV9 (a1 : Int)), (sR9 (.ref q3)), (sV9 (x4 : Int)), (sR9 (.ref p9)), (sV9 (x12 : (PySem.W.Tup Int))), (sR9 (.ref p31)), (sV9 (x34.1 : (PySem.W.Tup Int))), (sV9 (x34.2 : Int)), sA9, sA9, sA9], [(q3, (J.Cel.say (J.DU.dtC (s2 : List (J.DU.P3 × Int))))), (p9, (J.Cel.say (J.DU.dtC (x40 : List (J.DU.P3 × Int))))), (p31, (cL9 ((([((PySem.W.Tup.mk ((J.sortI (x29).items) : List Int)), (x30 + 1))] : List ((PySem.W.Tup Int) × Int)) : List ((PySem.W.Tup Int) × Int)).map sV9)))]⟩ : J.Stt) _ _
            have h9 := Option.some.inj h
            subst h9
            exact J.js_nil fun T tv σ H g => ⟨(), J.le_fgt (sl := [(sV9 (a0 : (List Int))), (sV9 (a1 : Int)), (sR9 (.ref q3)), (sV9 (x4 : Int)), (sR9 (.ref p9)), (sV9 (x12 : (PySem.W.Tup Int))), (sR9 (.ref p31)), sA9, sA9, sA9, sA9, sA9]) (cs := [(q3, (J.Cel.say (J.DU.dtC (s2 : List (J.DU.P3 × Int))))), (p9, (J.Cel.say (J.DU.dtC (x40 : List (J.DU.P3 × Int))))), (p31, (cL9 ((([((PySem.W.Tup.mk ((J.sortI (x29).items) : List Int)), (x30 + 1))] : List ((PySem.W.Tup Int) × Int)) : List ((PySem.W.Tup Int) × Int)).map sV9)))]) 3 (.keep (.keep (.keep (.keep (.keep (.keep (.keep (.drop (.drop (.drop (.drop (.drop .nil)))))))))))) rfl _ _ _ _ g⟩
          change J.JS _ _ (⟨[(sV9 (a0 : (List Int))), (sV9 (a1 : Int)), (sR9 (.ref q3)), (sV9 (x4 : Int)), (sR9 (.ref p9)), (sV9 (x12 : (PySem.W.Tup Int))), (sR9 (.ref p31)), sA9, sA9, sA9, sA9, sA9], [(q3, (J.Cel.say (J.DU.dtC (s2 : List (J.DU.P3 × Int))))), (p9, (J.Cel.say (J.DU.dtC (s41 : List (J.DU.P3 × Int))))), (p31, (cL9 ((([((PySem.W.Tup.mk ((J.sortI (x29).items) : List Int)), (x30 + 1))] : List ((PySem.W.Tup Int) × Int)) : List ((PySem.W.Tup Int) × Int)).map sV9)))]⟩ : J.Stt) _ _
          have h9 := Option.some.inj h
          subst h9
          exact J.js_nil fun T tv σ H g => ⟨(), J.le_fgt (sl := [(sV9 (a0 : (List Int))), (sV9 (a1 : Int)), (sR9 (.ref q3)), (sV9 (x4 : Int)), (sR9 (.ref p9)), sA9, sA9, sA9, sA9, sA9, sA9, sA9]) (cs := [(q3, (J.Cel.say (J.DU.dtC (s2 : List (J.DU.P3 × Int))))), (p9, (J.Cel.say (J.DU.dtC (s41 : List (J.DU.P3 × Int)))))]) 2 (.keep (.keep (.keep (.keep (.keep (.drop (.drop (.drop (.drop (.drop (.drop (.drop .nil)))))))))))) rfl _ _ _ _ g⟩
        · replace h := J.ifF hp h
          refine J.js_new (hN := hN) 6 (J.je_lstv (xs := ([] : List ((PySem.W.Tup Int) × Int))) J.ja_nil) fun p42 => ?_
          obtain ⟨s58, hs58, h⟩ := J.bndE h
          refine J.js_forE (π := Unit) (f := m_law_fewest_b3 s2 x4 x12) (Sf := fun (q44 : Unit) (s43 : (List ((PySem.W.Tup Int) × Int))) => (⟨[(sV9 (a0 : (List Int))), (sV9 (a1 : Int)), (sR9 (.ref q3)), (sV9 (x4 : Int)), (sR9 (.ref p9)), (sV9 (x12 : (PySem.W.Tup Int))), (sR9 (.ref p42)), sA9, sA9, sA9, sA9, sA9], [(q3, (J.Cel.say (J.DU.dtC (s2 : List (J.DU.P3 × Int))))), (p9, (J.Cel.say (J.DU.dtC (s10 : List (J.DU.P3 × Int))))), (p42, (cL9 ((s43 : List ((PySem.W.Tup Int) × Int)).map sV9)))]⟩ : J.Stt)) (Sb := fun (q44 : Unit) (s43 : (List ((PySem.W.Tup Int) × Int))) (x45 : Int) => (⟨[(sV9 (a0 : (List Int))), (sV9 (a1 : Int)), (sR9 (.ref q3)), (sV9 (x4 : Int)), (sR9 (.ref p9)), (sV9 (x12 : (PySem.W.Tup Int))), (sR9 (.ref p42)), sA9, sA9, (sV9 (x45 : Int)), sA9, sA9], [(q3, (J.Cel.say (J.DU.dtC (s2 : List (J.DU.P3 × Int))))), (p9, (J.Cel.say (J.DU.dtC (s10 : List (J.DU.P3 × Int))))), (p42, (cL9 ((s43 : List ((PySem.W.Tup Int) × Int)).map sV9)))]⟩ : J.Stt)) hs58 (J.ji_tupv (t := (x12 : (PySem.W.Tup Int))) (J.je_var 5 rfl)) (fun _ _ _ _ g => ⟨(), J.le_fgt (sl := [(sV9 (a0 : (List Int))), (sV9 (a1 : Int)), (sR9 (.ref q3)), (sV9 (x4 : Int)), (sR9 (.ref p9)), (sV9 (x12 : (PySem.W.Tup Int))), (sR9 (.ref p42)), sA9, sA9, sA9, sA9, sA9]) (cs := [(q3, (J.Cel.say (J.DU.dtC (s2 : List (J.DU.P3 × Int))))), (p9, (J.Cel.say (J.DU.dtC (s10 : List (J.DU.P3 × Int))))), (p42, (cL9 ((([] : List ((PySem.W.Tup Int) × Int)) : List ((PySem.W.Tup Int) × Int)).map sV9)))]) 3 (.keep (.keep (.keep (.keep (.keep (.keep (.keep (.drop (.drop (.drop (.drop (.drop .nil)))))))))))) rfl _ _ _ _ g⟩) (fun _ _ => trivial) (fun q44 s43 x45 => (J.jg_name 9 (hN := hN))) (fun q44 s43 x45 sY _ h => ?_) (fun q44 => ?_)
          · unfold m_law_fewest_b3 at h
            change J.JS _ _ (⟨[(sV9 (a0 : (List Int))), (sV9 (a1 : Int)), (sR9 (.ref q3)), (sV9 (x4 : Int)), (sR9 (.ref p9)), (sV9 (x12 : (PySem.W.Tup Int))), (sR9 (.ref p42)), sA9, sA9, (sV9 (x45 : Int)), sA9, sA9], [(q3, (J.Cel.say (J.DU.dtC (s2 : List (J.DU.P3 × Int))))), (p9, (J.Cel.say (J.DU.dtC (s10 : List (J.DU.P3 × Int))))), (p42, (cL9 ((s43 : List ((PySem.W.Tup Int) × Int)).map sV9)))]⟩ : J.Stt) _ _
            obtain ⟨x53, hx53, h⟩ := J.bndE h
            obtain ⟨x54, hx54, h⟩ := J.bndE h
            refine J.js_set (hN := hN) 10 (J.je_let (J.je_tupL (xs := (x53.1 : List Int)) W.l_tuple (J.je_lc (f := m_law_fewest_c2 x45) (el := sV9) (Sf := fun (s50 : Unit) => (⟨[(sV9 (a0 : (List Int))), (sV9 (a1 : Int)), (sR9 (.ref q3)), (sV9 (x4 : Int)), (sR9 (.ref p9)), (sV9 (x12 : (PySem.W.Tup Int))), (sR9 (.ref p42)), sA9, sA9, (sV9 (x45 : Int)), sA9, sA9], [(q3, (J.Cel.say (J.DU.dtC (s2 : List (J.DU.P3 × Int))))), (p9, (J.Cel.say (J.DU.dtC (s10 : List (J.DU.P3 × Int))))), (p42, (cL9 ((s43 : List ((PySem.W.Tup Int) × Int)).map sV9)))]⟩ : J.Stt)) (Sb := fun (s50 : Unit) (x52 : Int) => (⟨[(sV9 (a0 : (List Int))), (sV9 (a1 : Int)), (sR9 (.ref q3)), (sV9 (x4 : Int)), (sR9 (.ref p9)), (sV9 (x12 : (PySem.W.Tup Int))), (sR9 (.ref p42)), sA9, sA9, (sV9 (x45 : Int)), sA9, (sV9 (x52 : Int))], [(q3, (J.Cel.say (J.DU.dtC (s2 : List (J.DU.P3 × Int))))), (p9, (J.Cel.say (J.DU.dtC (s10 : List (J.DU.P3 × Int))))), (p42, (cL9 ((s43 : List ((PySem.W.Tup Int) × Int)).map sV9)))]⟩ : J.Stt)) (s0 := ()) (own := [(("other" : St9), 11)]) (ws := [11]) (J.lcM_of hx53).2 (J.lcM_of hx53).1 hN (L2.blkOk_by (N := ["line", "size", "sets", "one", "behind", "held", "some", "there", "many", "gone", "others", "other"]) (sc := defScope s__law_fewest) (by decide +kernel)) (J.ji_tupv (t := (x12 : (PySem.W.Tup Int))) (J.je_var 5 rfl)) (J.le_fgt 3 (.keep (.keep (.keep (.keep (.keep (.keep (.keep (.drop (.drop (.keep (.drop (.drop .nil)))))))))))) rfl) (fun _ => trivial) (fun _ => J.any_at rfl) (by decide) (fun s50 x52 => fun s91 H91 C91 cl91 fp91 =>  J.inJG hN fun hN => (J.jg_name 11 (hN := hN))) (fun s50 x52 o sZ _ h => by
      unfold m_law_fewest_c2 at h
      by_cases hp : (decide (x52 ≠ x45)) = true
      · replace h := J.ifT hp h
        obtain ⟨h8, h9⟩ := Prod.mk.inj (Option.some.inj h)
        subst h8
        subst h9
        exact ⟨true, _, (fun s91 H91 C91 cl91 fp91 =>  J.inJTs hr hN fun hr hN => J.jts_one (J.jt_eq (J.jt_ne' (t := (x52 : Int)) (r := (x45 : Int)) hr (J.je_var 11 rfl) (J.je_var 9 rfl) J.dv_val J.dv_val) hp)), fun _ => ⟨_, _, rfl, (fun s91 H91 C91 cl91 fp91 =>  J.inJE hr hN fun hr hN => (J.je_var 11 rfl)), (J.le_fgt 3 (.keep (.keep (.keep (.keep (.keep (.keep (.keep (.drop (.drop (.keep (.drop (.drop .nil)))))))))))) rfl)⟩, nofun⟩
      · rw [Bool.not_eq_true] at hp
        replace h := J.ifF hp h
        obtain ⟨h8, h9⟩ := Prod.mk.inj (Option.some.inj h)
        subst h8
        subst h9
        exact ⟨false, _, (fun s91 H91 C91 cl91 fp91 =>  J.inJTs hr hN fun hr hN => J.jts_one (J.jt_eq (J.jt_ne' (t := (x52 : Int)) (r := (x45 : Int)) hr (J.je_var 11 rfl) (J.je_var 9 rfl) J.dv_val J.dv_val) hp)), nofun, fun _ => ⟨rfl, (J.le_fgt 3 (.keep (.keep (.keep (.keep (.keep (.keep (.keep (.drop (.drop (.keep (.drop (.drop .nil)))))))))))) rfl)⟩⟩)) J.lv_own') hx54) ?_
            obtain ⟨x55, hx55, h⟩ := J.bndE h
            obtain ⟨x56, hx56, h⟩ := J.bndE h
            obtain ⟨x57, hx57, h⟩ := J.bndE h
            refine J.js_expr (J.je_appG (xs := s43) (t := (((PySem.W.Tup.mk ((J.sortI (x55).items) : List Int)), (x56 + 1)) : ((PySem.W.Tup Int) × Int))) 2 (J.je_var 6 rfl) rfl (J.je_tup (t := (((PySem.W.Tup.mk ((J.sortI (x55).items) : List Int)), (x56 + 1)) : ((PySem.W.Tup Int) × Int))) (J.ja_cons (J.je_tupL (xs := ((J.sortI (x55).items) : List Int)) W.l_tuple (J.je_sortUG (t := x55) W.l_sorted (J.je_catUG (t := x54) (u := (PySem.W.Tup.mk ([x4] : List Int))) (J.je_var 10 rfl) (J.je_tupv (xs := ([x4] : List Int)) (J.ja_cons (J.je_var 3 rfl) J.ja_nil)) hx55)) J.lv_own') (J.ja_cons (J.je_add (J.DU.je_dgetT (m := (s2 : (List (J.DU.P3 × Int)))) (key := x12) 0 hr (J.je_var 2 rfl) (J.je_var 5 rfl) rfl hx56) J.je_int) J.ja_nil)) (J.SlDs.cons J.sld_val (J.SlDs.cons J.sld_val J.SlDs.nil)) rfl (Nat.le_of_ble_eq_true rfl)) rfl hx57) ?_
            have h9 := Option.some.inj h
            subst h9
            exact J.js_nil fun T tv σ H g => ⟨(), J.le_fgt (sl := [(sV9 (a0 : (List Int))), (sV9 (a1 : Int)), (sR9 (.ref q3)), (sV9 (x4 : Int)), (sR9 (.ref p9)), (sV9 (x12 : (PySem.W.Tup Int))), (sR9 (.ref p42)), sA9, sA9, sA9, sA9, sA9]) (cs := [(q3, (J.Cel.say (J.DU.dtC (s2 : List (J.DU.P3 × Int))))), (p9, (J.Cel.say (J.DU.dtC (s10 : List (J.DU.P3 × Int))))), (p42, (cL9 ((x57 : List ((PySem.W.Tup Int) × Int)).map sV9)))]) 3 (.keep (.keep (.keep (.keep (.keep (.keep (.keep (.drop (.drop (.drop (.drop (.drop .nil)))))))))))) rfl _ _ _ _ g⟩
          change J.JS _ _ (⟨[(sV9 (a0 : (List Int))), (sV9 (a1 : Int)), (sR9 (.ref q3)), (sV9 (x4 : Int)), (sR9 (.ref p9)), (sV9 (x12 : (PySem.W.Tup Int))), (sR9 (.ref p42)), sA9, sA9, sA9, sA9, sA9], [(q3, (J.Cel.say (J.DU.dtC (s2 : List (J.DU.P3 × Int))))), (p9, (J.Cel.say (J.DU.dtC (s10 : List (J.DU.P3 × Int))))), (p42, (cL9 ((s58 : List ((PySem.W.Tup Int) × Int)).map sV9)))]⟩ : J.Stt) _ _
          refine J.js_end ?_
          change J.JS _ _ (⟨[(sV9 (a0 : (List Int))), (sV9 (a1 : Int)), (sR9 (.ref q3)), (sV9 (x4 : Int)), (sR9 (.ref p9)), (sV9 (x12 : (PySem.W.Tup Int))), (sR9 (.ref p42)), sA9, sA9, sA9, sA9, sA9], [(q3, (J.Cel.say (J.DU.dtC (s2 : List (J.DU.P3 × Int))))), (p9, (J.Cel.say (J.DU.dtC (s10 : List (J.DU.P3 × Int))))), (p42, (cL9 ((s58 : List ((PySem.W.Tup Int) × Int)).map sV9)))]⟩ : J.Stt) _ _
          refine J.js_end ?_
          change J.JS _ _ (⟨[(sV9 (a0 : (List Int))), (sV9 (a1 : Int)), (sR9 (.ref q3)), (sV9 (x4 : Int)), (sR9 (.ref p9)), (sV9 (x12 : (PySem.W.Tup Int))), (sR9 (.ref p42)), sA9, sA9, sA9, sA9, sA9], [(q3, (J.Cel.say (J.DU.dtC (s2 : List (J.DU.P3 × Int))))), (p9, (J.Cel.say (J.DU.dtC (s10 : List (J.DU.P3 × Int))))), (p42, (cL9 ((s58 : List ((PySem.W.Tup Int) × Int)).map sV9)))]⟩ : J.Stt) _ _
          obtain ⟨s68, hs68, h⟩ := J.bndE h
          refine J.js_forE (π := Unit) (f := m_law_fewest_b4) (Sf := fun (q60 : Unit) (s59 : (List (J.DU.P3 × Int))) => (⟨[(sV9 (a0 : (List Int))), (sV9 (a1 : Int)), (sR9 (.ref q3)), (sV9 (x4 : Int)), (sR9 (.ref p9)), (sV9 (x12 : (PySem.W.Tup Int))), (sR9 (.ref p42)), sA9, sA9, sA9, sA9, sA9], [(q3, (J.Cel.say (J.DU.dtC (s2 : List (J.DU.P3 × Int))))), (p9, (J.Cel.say (J.DU.dtC (s59 : List (J.DU.P3 × Int))))), (p42, (cL9 ((s58 : List ((PySem.W.Tup Int) × Int)).map sV9)))]⟩ : J.Stt)) (Sb := fun (q60 : Unit) (s59 : (List (J.DU.P3 × Int))) (x61 : ((PySem.W.Tup Int) × Int)) => (⟨[(sV9 (a0 : (List Int))), (sV9 (a1 : Int)), (sR9 (.ref q3)), (sV9 (x4 : Int)), (sR9 (.ref p9)), (sV9 (x12 : (PySem.W.Tup Int))), (sR9 (.ref p42)), (sV9 (x61.1 : (PySem.W.Tup Int))), (sV9 (x61.2 : Int)), sA9, sA9, sA9], [(q3, (J.Cel.say (J.DU.dtC (s2 : List (J.DU.P3 × Int))))), (p9, (J.Cel.say (J.DU.dtC (s59 : List (J.DU.P3 × Int))))), (p42, (cL9 ((s58 : List ((PySem.W.Tup Int) × Int)).map sV9)))]⟩ : J.Stt)) hs68 (J.ji_cell (xs := s58) 2 (J.je_var 6 rfl) rfl) (fun _ _ _ _ g => ⟨(), J.le_fgt (sl := [(sV9 (a0 : (List Int))), (sV9 (a1 : Int)), (sR9 (.ref q3)), (sV9 (x4 : Int)), (sR9 (.ref p9)), (sV9 (x12 : (PySem.W.Tup Int))), (sR9 (.ref p42)), sA9, sA9, sA9, sA9, sA9]) (cs := [(q3, (J.Cel.say (J.DU.dtC (s2 : List (J.DU.P3 × Int))))), (p9, (J.Cel.say (J.DU.dtC (s10 : List (J.DU.P3 × Int))))), (p42, (cL9 ((s58 : List ((PySem.W.Tup Int) × Int)).map sV9)))]) 3 (.keep (.keep (.keep (.keep (.keep (.keep (.keep (.drop (.drop (.drop (.drop (.drop .nil)))))))))))) rfl _ _ _ _ g⟩) (fun _ _ => rfl) (fun q60 s59 x61 => (J.jg_pair (J.jgs_cons (J.jg_name 7 (hN := hN)) (J.jgs_cons (J.jg_name 8 (hN := hN)) J.jgs_nil)))) (fun q60 s59 x61 sY _ h => ?_) (fun q60 => ?_)
          · unfold m_law_fewest_b4 at h
            change J.JS _ _ (⟨[(sV9 (a0 : (List Int))), (sV9 (a1 : Int)), (sR9 (.ref q3)), (sV9 (x4 : Int)), (sR9 (.ref p9)), (sV9 (x12 : (PySem.W.Tup Int))), (sR9 (.ref p42)), (sV9 (x61.1 : (PySem.W.Tup Int))), (sV9 (x61.2 : Int)), sA9, sA9, sA9], [(q3, (J.Cel.say (J.DU.dtC (s2 : List (J.DU.P3 × Int))))), (p9, (J.Cel.say (J.DU.dtC (s59 : List (J.DU.P3 × Int))))), (p42, (cL9 ((s58 : List ((PySem.W.Tup Int) × Int)).map sV9)))]⟩ : J.Stt) _ _
            obtain ⟨x66, hx66, h⟩ := J.bndE h
            obtain ⟨x67, hx67, h⟩ := J.bndE h
            refine J.DU.js_dputT (m := s59) (key := x61.1) 1 hr (J.je_let (J.je_min2 W.l_min (J.je_var 8 rfl) (J.DU.je_getT2 (m := s59) (m0 := s59) (key := x61.1) (t := (x61.2 : Int)) 1 hr (J.je_var 4 rfl) rfl (J.je_var 7 rfl) (J.je_var 8 rfl) rfl)) hx66) (J.je_var 4 rfl) (J.je_var 7 rfl) rfl hx67 ?_
            change J.JS _ _ (⟨[(sV9 (a0 : (List Int))), (sV9 (a1 : Int)), (sR9 (.ref q3)), (sV9 (x4 : Int)), (sR9 (.ref p9)), (sV9 (x12 : (PySem.W.Tup Int))), (sR9 (.ref p42)), (sV9 (x61.1 : (PySem.W.Tup Int))), (sV9 (x61.2 : Int)), sA9, sA9, sA9], [(q3, (J.Cel.say (J.DU.dtC (s2 : List (J.DU.P3 × Int))))), (p9, (J.Cel.say (J.DU.dtC (x67 : List (J.DU.P3 × Int))))), (p42, (cL9 ((s58 : List ((PySem.W.Tup Int) × Int)).map sV9)))]⟩ : J.Stt) _ _
            have h9 := Option.some.inj h
            subst h9
            exact J.js_nil fun T tv σ H g => ⟨(), J.le_fgt (sl := [(sV9 (a0 : (List Int))), (sV9 (a1 : Int)), (sR9 (.ref q3)), (sV9 (x4 : Int)), (sR9 (.ref p9)), (sV9 (x12 : (PySem.W.Tup Int))), (sR9 (.ref p42)), sA9, sA9, sA9, sA9, sA9]) (cs := [(q3, (J.Cel.say (J.DU.dtC (s2 : List (J.DU.P3 × Int))))), (p9, (J.Cel.say (J.DU.dtC (x67 : List (J.DU.P3 × Int))))), (p42, (cL9 ((s58 : List ((PySem.W.Tup Int) × Int)).map sV9)))]) 3 (.keep (.keep (.keep (.keep (.keep (.keep (.keep (.drop (.drop (.drop (.drop (.drop .nil)))))))))))) rfl _ _ _ _ g⟩
          change J.JS _ _ (⟨[(sV9 (a0 : (List Int))), (sV9 (a1 : Int)), (sR9 (.ref q3)), (sV9 (x4 : Int)), (sR9 (.ref p9)), (sV9 (x12 : (PySem.W.Tup Int))), (sR9 (.ref p42)), sA9, sA9, sA9, sA9, sA9], [(q3, (J.Cel.say (J.DU.dtC (s2 : List (J.DU.P3 × Int))))), (p9, (J.Cel.say (J.DU.dtC (s68 : List (J.DU.P3 × Int))))), (p42, (cL9 ((s58 : List ((PySem.W.Tup Int) × Int)).map sV9)))]⟩ : J.Stt) _ _
          have h9 := Option.some.inj h
          subst h9
          exact J.js_nil fun T tv σ H g => ⟨(), J.le_fgt (sl := [(sV9 (a0 : (List Int))), (sV9 (a1 : Int)), (sR9 (.ref q3)), (sV9 (x4 : Int)), (sR9 (.ref p9)), sA9, sA9, sA9, sA9, sA9, sA9, sA9]) (cs := [(q3, (J.Cel.say (J.DU.dtC (s2 : List (J.DU.P3 × Int))))), (p9, (J.Cel.say (J.DU.dtC (s68 : List (J.DU.P3 × Int)))))]) 2 (.keep (.keep (.keep (.keep (.keep (.drop (.drop (.drop (.drop (.drop (.drop (.drop .nil)))))))))))) rfl _ _ _ _ g⟩
    change J.JS _ _ (⟨[(sV9 (a0 : (List Int))), (sV9 (a1 : Int)), (sR9 (.ref q3)), (sV9 (x4 : Int)), (sR9 (.ref p9)), sA9, sA9, sA9, sA9, sA9, sA9, sA9], [(q3, (J.Cel.say (J.DU.dtC (s2 : List (J.DU.P3 × Int))))), (p9, (J.Cel.say (J.DU.dtC (s69 : List (J.DU.P3 × Int)))))]⟩ : J.Stt) _ _
    refine J.js_set (hN := hN) 2 (J.je_var 4 rfl) ?_
    have h9 := Option.some.inj h
    subst h9
    refine J.js_mv 0 1 rfl rfl ?_
    exact J.js_nil fun T tv σ H g => ⟨p9, J.le_fgt (sl := [(sV9 (a0 : (List Int))), (sV9 (a1 : Int)), (sR9 (.ref p9)), sA9, sA9, sA9, sA9, sA9, sA9, sA9, sA9, sA9]) (cs := [(p9, (J.Cel.say (J.DU.dtC (s69 : List (J.DU.P3 × Int)))))]) 1 (.keep (.keep (.keep (.drop (.drop (.drop (.drop (.drop (.drop (.drop (.drop (.drop .nil)))))))))))) rfl _ _ _ _ g⟩
  change J.JS _ _ (⟨[(sV9 (a0 : (List Int))), (sV9 (a1 : Int)), (sR9 (.ref q3)), sA9, sA9, sA9, sA9, sA9, sA9, sA9, sA9, sA9], [(q3, (J.Cel.say (J.DU.dtC (s70 : List (J.DU.P3 × Int)))))]⟩ : J.Stt) _ _
  obtain ⟨x71, hx71, h⟩ := J.bndE h
  have h9 := Option.some.inj h
  subst h9
  exact J.js_ret (J.je_minG (xs := ((s70 : (List (J.DU.P3 × Int))).map (·.2))) hr W.l_min (J.DU.je_listValsU (m := (s70 : (List (J.DU.P3 × Int)))) 0 W.l_list (J.je_var 2 rfl) rfl) J.lv_own' hx71) fun v H o => J.Out.take 0 o
structure G_law where
  p0 : PySem.Addr
  a0 : List Int
  out : Bool
abbrev R_law {K : PySem.W.Frag} {mg : Str → Option Value} (W : Wd K mg) (r : Bool) : J.Slot := (sV9 (r : Bool))
abbrev C_law {K : PySem.W.Frag} {mg : Str → Option Value} (W : Wd K mg) (p0 : PySem.Addr) (a0 : List Int) (r : Bool) : List (PySem.Addr × J.Cel) := [((He.cT K ("farthest", none)).2, (J.Cel.say (J.tabC ((("farthest" : St9) ++ ".<locals>.") ++ "<lambda>"))))]
abbrev A_law {K : PySem.W.Frag} {mg : Str → Option Value} (W : Wd K mg) (p0 : PySem.Addr) (a0 : List Int) : List J.Slot := [(sR9 (.ref p0))]
abbrev D_law {K : PySem.W.Frag} {mg : Str → Option Value} (W : Wd K mg) (p0 : PySem.Addr) (a0 : List Int) : List (PySem.Addr × J.Cel) := [((He.cT K ("farthest", none)).2, (J.Cel.say (J.tabC ((("farthest" : St9) ++ ".<locals>.") ++ "<lambda>"))))]
def F_law {K : PySem.W.Frag} {mg : Str → Option Value} (W : Wd K mg)  : J.FS G_law where
  pre := fun g => m_law g.a0 = some g.out
  preG := fun g G => L2.SqL K G g.p0 (g.a0.map V.int)
  args := fun g => A_law W g.p0 g.a0
  cells := fun g => D_law W g.p0 g.a0
  res := fun g => R_law W g.out
  cells' := fun g => C_law W g.p0 g.a0 g.out
theorem ok_law (W : Wd K mg) : FnOk P w K mg base CX0 8 W.a_law W.d_law ["script"] (F_law (W)).sp := by
  refine J.fn_okD (F_law (W)) W.F_law sc_law (fun g => rfl) (fun g => by intro s hs; simp only [F_law, List.mem_cons, List.not_mem_nil, or_false] at hs; rcases hs with rfl <;> first | rfl | exact J.xsl_plain) (fun cdv A outer s H E hr B g h hG => ?_)
  have hN := (sc_law).nd
  obtain ⟨p0, a0, r0⟩ := g
  change m_law a0 = some r0 at h
  unfold m_law at h
  change J.JS _ B (⟨[(sR9 (.ref p0)), sA9, sA9, sA9, sA9, sA9, sA9, sA9, sA9], [((He.cT K ("farthest", none)).2, (J.Cel.say (J.tabC ((("farthest" : St9) ++ ".<locals>.") ++ "<lambda>"))))]⟩ : J.Stt) _ (J.fend B (F_law (W)) ⟨p0, a0, r0⟩)
  obtain ⟨x1, hx1, h⟩ := J.bndE h
  refine J.js_new (hN := hN) 1 (J.je_call (f := F_law_deck W) (ok_law_deck (base := base) W) hr (by decide) W.g__law_deck W.F__law_deck.kp W.b__law_deck (J.ja_cons (J.je_var 0 rfl) J.ja_nil) (g := (⟨p0, a0, x1⟩ : G_law_deck)) hx1 rfl .nil .nil (hG := fun G e => J.sql_mono hG e)) fun p2 => ?_
  change J.JS _ _ (⟨[(sR9 (.ref p0)), (sR9 (.ref p2)), sA9, sA9, sA9, sA9, sA9, sA9, sA9], [((He.cT K ("farthest", none)).2, (J.Cel.say (J.tabC ((("farthest" : St9) ++ ".<locals>.") ++ "<lambda>")))), (p2, (cL9 [(sO9 (cL9 ((x1.1 : List Int).map sV9))), (sV9 (x1.2.1 : Int)), (sV9 (x1.2.2 : Int))]))]⟩ : J.Stt) _ _
  obtain ⟨x3, hx3, h⟩ := J.bndE h
  obtain ⟨o25, ho25, h⟩ := J.bndE h
  refine J.js_forLE (π := Unit) (Rr := fun r => J.Out B (R_law W r) (C_law W p0 a0 r)) (f := m_law_b1 x1) (Sf := fun (q5 : Unit) (s4 : ((List Int) × Int)) => (⟨[(sR9 (.ref p0)), (sR9 (.ref p2)), sA9, sA9, sA9, sA9, sA9, sA9, sA9], [((He.cT K ("farthest", none)).2, (J.Cel.say (J.tabC ((("farthest" : St9) ++ ".<locals>.") ++ "<lambda>")))), (p2, (cL9 [(sO9 (cL9 ((s4.1 : List Int).map sV9))), (sV9 (x1.2.1 : Int)), (sV9 (s4.2 : Int))]))]⟩ : J.Stt)) (Sb := fun (q5 : Unit) (s4 : ((List Int) × Int)) (x6 : Int) => (⟨[(sR9 (.ref p0)), (sR9 (.ref p2)), (sV9 (x6 : Int)), sA9, sA9, sA9, sA9, sA9, sA9], [((He.cT K ("farthest", none)).2, (J.Cel.say (J.tabC ((("farthest" : St9) ++ ".<locals>.") ++ "<lambda>")))), (p2, (cL9 [(sO9 (cL9 ((s4.1 : List Int).map sV9))), (sV9 (x1.2.1 : Int)), (sV9 (s4.2 : Int))]))]⟩ : J.Stt)) ho25 (J.ji_rngG W.l_range (J.je_add J.je_int (J.je_min2 W.l_min J.je_int (J.je_len (n := "len") (xs := a0) W.l_len (J.je_var 0 rfl) (J.lv_pre hG)))) hx3) (fun _ _ _ _ g => ⟨(), J.le_fgt (sl := [(sR9 (.ref p0)), (sR9 (.ref p2)), sA9, sA9, sA9, sA9, sA9, sA9, sA9]) (cs := [((He.cT K ("farthest", none)).2, (J.Cel.say (J.tabC ((("farthest" : St9) ++ ".<locals>.") ++ "<lambda>")))), (p2, (cL9 [(sO9 (cL9 (((x1.1, x1.2.2).1 : List Int).map sV9))), (sV9 (x1.2.1 : Int)), (sV9 ((x1.1, x1.2.2).2 : Int))]))]) 2 (.keep (.keep (.drop (.drop (.drop (.drop (.drop (.drop (.drop .nil))))))))) rfl _ _ _ _ g⟩) (fun _ _ => trivial) (fun q5 s4 x6 => (J.jg_name 2 (hN := hN))) (fun q5 s4 x6 o9 _ h => ?_) (fun r e v H hv => by subst e; cases h; exact hv) (fun s24 e q5 => ?_)
  · unfold m_law_b1 at h
    change J.JS _ _ (⟨[(sR9 (.ref p0)), (sR9 (.ref p2)), (sV9 (x6 : Int)), sA9, sA9, sA9, sA9, sA9, sA9], [((He.cT K ("farthest", none)).2, (J.Cel.say (J.tabC ((("farthest" : St9) ++ ".<locals>.") ++ "<lambda>")))), (p2, (cL9 [(sO9 (cL9 ((s4.1 : List Int).map sV9))), (sV9 (x1.2.1 : Int)), (sV9 (s4.2 : Int))]))]⟩ : J.Stt) _ _
    obtain ⟨x11, hx11, h⟩ := J.bndE h
    refine J.js_set (hN := hN) 3 (J.je_frL (J.je_call (f := F_law_trace W) (ok_law_trace (base := base) W) hr (by decide) W.g__law_trace W.F__law_trace.kp W.b__law_trace (J.ja_cons (J.je_var 1 rfl) (J.ja_cons J.je_int J.ja_nil)) (g := (⟨p2, 200, s4.1, x1.2.1, s4.2, x11⟩ : G_law_trace)) hx11 rfl (.cons 1 rfl (by nofun) .nil) (.cons 1 rfl .nil) (hG := fun G e => trivial))) ?_
    change J.JS _ _ (⟨[(sR9 (.ref p0)), (sR9 (.ref p2)), (sV9 (x6 : Int)), (sV9 (x11.1 : (List Int))), sA9, sA9, sA9, sA9, sA9], [((He.cT K ("farthest", none)).2, (J.Cel.say (J.tabC ((("farthest" : St9) ++ ".<locals>.") ++ "<lambda>")))), (p2, (cL9 [(sO9 (cL9 ((x11.2.1 : List Int).map sV9))), (sV9 (x1.2.1 : Int)), (sV9 (x11.2.2 : Int))]))]⟩ : J.Stt) _ _
    obtain ⟨x12, hx12, h⟩ := J.bndE h
    refine J.js_set (hN := hN) 4 (J.je_frL (J.je_sortSet (ns := x11.1) W.l_sorted W.l_set (J.je_var 3 rfl) J.lv_val hx12)) ?_
    obtain ⟨x18, hx18, h⟩ := J.bndE h
    refine J.js_setLc 3 (z := (sV9 (x18.1 : (List Int)))) (f := m_law_c0 x12) (el := sV9) (Sf := fun (s13 : Unit) => (⟨[(sR9 (.ref p0)), (sR9 (.ref p2)), (sV9 (x6 : Int)), (sV9 (x11.1 : (List Int))), (sV9 (x12 : (List Int))), sA9, sA9, sA9, sA9], [((He.cT K ("farthest", none)).2, (J.Cel.say (J.tabC ((("farthest" : St9) ++ ".<locals>.") ++ "<lambda>")))), (p2, (cL9 [(sO9 (cL9 ((x11.2.1 : List Int).map sV9))), (sV9 (x1.2.1 : Int)), (sV9 (x11.2.2 : Int))]))]⟩ : J.Stt)) (Sb := fun (s13 : Unit) (x15 : Int) => (⟨[(sR9 (.ref p0)), (sR9 (.ref p2)), (sV9 (x6 : Int)), (sV9 (x11.1 : (List Int))), (sV9 (x12 : (List Int))), sA9, sA9, sA9, (sV9 (x15 : Int))], [((He.cT K ("farthest", none)).2, (J.Cel.say (J.tabC ((("farthest" : St9) ++ ".<locals>.") ++ "<lambda>")))), (p2, (cL9 [(sO9 (cL9 ((x11.2.1 : List Int).map sV9))), (sV9 (x1.2.1 : Int)), (sV9 (x11.2.2 : Int))]))]⟩ : J.Stt)) (s0 := ()) (own := [(("one" : St9), 8)]) (ws := [8]) (J.lcM_of hx18).2 (J.lcM_of hx18).1 hN (L2.blkOk_by (N := ["script", "deck", "k", "line", "pool", "size", "handed", "told", "one"]) (sc := defScope s_law) (by decide +kernel)) (J.ji_val (xs := x11.1) (J.je_var 3 rfl)) (J.le_fgt 2 (.keep (.keep (.keep (.keep (.keep (.drop (.drop (.drop (.drop .nil))))))))) rfl) (fun _ => trivial) (fun _ => J.any_at rfl) (by decide) (fun s13 x15 => fun s91 H91 C91 cl91 fp91 =>  J.inJG hN fun hN => (J.jg_name 8 (hN := hN))) (fun s13 x15 o sZ _ h => by
      unfold m_law_c0 at h
      obtain ⟨x16, hx16, h⟩ := J.bndE h
      obtain ⟨x17, hx17, h⟩ := J.bndE h
      obtain ⟨h8, h9⟩ := Prod.mk.inj (Option.some.inj h)
      subst h8
      subst h9
      exact ⟨true, _, (fun s91 H91 C91 cl91 fp91 =>  J.jts_nil), fun _ => ⟨_, _, rfl, (fun s91 H91 C91 cl91 fp91 =>  J.inJE hr hN fun hr hN => (J.je_ixv (xs := x12) (J.je_var 4 rfl) (J.je_mod (J.je_idxV (xs := x12) (t := (x15 : Int)) hr (J.je_var 4 rfl) (J.je_var 8 rfl) hx16) J.je_int (by decide)) J.lv_val hx17)), (J.le_fgt 2 (.keep (.keep (.keep (.keep (.keep (.drop (.drop (.drop (.drop .nil))))))))) rfl)⟩, nofun⟩) (fun h => h.frz (.own (J.fz_val _)) fun G d => .val d) ?_
    obtain ⟨x19, hx19, h⟩ := J.bndE h
    refine J.js_set (hN := hN) 5 (J.je_add J.je_int (J.je_call (f := F_law_take W) (ok_law_take (base := base) W) hr (by decide) W.g__law_take W.F__law_take.kp W.b__law_take (J.ja_cons (J.je_var 1 rfl) (J.ja_cons J.je_int J.ja_nil)) (g := (⟨p2, 4, x11.2.1, x1.2.1, x11.2.2, x19⟩ : G_law_take)) hx19 rfl (.cons 1 rfl (by nofun) .nil) (.cons 1 rfl .nil) (hG := fun G e => trivial))) ?_
    change J.JS _ _ (⟨[(sR9 (.ref p0)), (sR9 (.ref p2)), (sV9 (x6 : Int)), (sV9 (x18.1 : (List Int))), (sV9 (x12 : (List Int))), (sV9 ((1 + x19.1) : Int)), sA9, sA9, sA9], [((He.cT K ("farthest", none)).2, (J.Cel.say (J.tabC ((("farthest" : St9) ++ ".<locals>.") ++ "<lambda>")))), (p2, (cL9 [(sO9 (cL9 ((x19.2.1 : List Int).map sV9))), (sV9 (x1.2.1 : Int)), (sV9 (x19.2.2 : Int))]))]⟩ : J.Stt) _ _
    refine J.js_set (hN := hN) 6 (J.je_frL (J.je_list (ss := (x18.1 : List Int).map sV9) W.l_list (J.je_var 3 rfl) J.lv_val)) ?_
    obtain ⟨x20, hx20, h⟩ := J.bndE h
    refine J.js_set (hN := hN) 7 (J.je_call (f := F_fewest W) (ok_fewest (base := base) W) hr (by decide) W.g_fewest W.F_fewest.kp W.b_fewest (J.ja_cons (J.je_var 6 rfl) (J.ja_cons (J.je_var 5 rfl) J.ja_nil)) (g := (⟨x18.1, (1 + x19.1), x20⟩ : G_fewest)) hx20 rfl (.cons 0 rfl (by nofun) .nil) (.cons 0 rfl .nil) (hG := fun G e => trivial)) ?_
    change J.JS _ _ (⟨[(sR9 (.ref p0)), (sR9 (.ref p2)), (sV9 (x6 : Int)), (sV9 (x18.1 : (List Int))), (sV9 (x12 : (List Int))), (sV9 ((1 + x19.1) : Int)), (sV9 (x18.1 : (List Int))), (sV9 (x20 : Int)), sA9], [((He.cT K ("farthest", none)).2, (J.Cel.say (J.tabC ((("farthest" : St9) ++ ".<locals>.") ++ "<lambda>")))), (p2, (cL9 [(sO9 (cL9 ((x19.2.1 : List Int).map sV9))), (sV9 (x1.2.1 : Int)), (sV9 (x19.2.2 : Int))]))]⟩ : J.Stt) _ _
    obtain ⟨x22, hx22, h⟩ := J.bndE h
    refine J.js_if (J.JW.t (J.jw_orM hx22 (J.jt_bl (J.je_isiG (r := false) W.l_isinstance (J.je_var 7 rfl) (J.je_bty W.l_bool PyProof.Rows.boot_bool) J.ty_int)) fun _ r h => by
      obtain ⟨x21, hx21, h⟩ := J.bndE h
      have h9 := Option.some.inj h
      subst h9
      exact (J.jw_or (J.jt_ne' (t := (x20 : Int)) (r := (x21 : Int)) hr (J.je_var 7 rfl) (J.je_call (f := F_law_fewest W) (ok_law_fewest (base := base) W) hr (by decide) W.g__law_fewest W.F__law_fewest.kp W.b__law_fewest (J.ja_cons (J.je_var 3 rfl) (J.ja_cons (J.je_var 5 rfl) J.ja_nil)) (g := (⟨x18.1, (1 + x19.1), x21⟩ : G_law_fewest)) hx21 rfl .nil .nil (hG := fun G e => trivial)) J.dv_val J.dv_val) fun _ => (J.jw_or1 (J.jt_ne' (t := (x18.1 : (List Int))) (r := (x18.1 : (List Int))) hr (J.je_var 6 rfl) (J.je_var 3 rfl) J.dv_val J.dv_val))))) (fun hp => ?_) (fun hp => ?_)
    · replace h := J.ifT hp h
      change J.JS _ _ (⟨[(sR9 (.ref p0)), (sR9 (.ref p2)), (sV9 (x6 : Int)), (sV9 (x18.1 : (List Int))), (sV9 (x12 : (List Int))), (sV9 ((1 + x19.1) : Int)), (sV9 (x18.1 : (List Int))), (sV9 (x20 : Int)), sA9], [((He.cT K ("farthest", none)).2, (J.Cel.say (J.tabC ((("farthest" : St9) ++ ".<locals>.") ++ "<lambda>")))), (p2, (cL9 [(sO9 (cL9 ((x19.2.1 : List Int).map sV9))), (sV9 (x1.2.1 : Int)), (sV9 (x19.2.2 : Int))]))]⟩ : J.Stt) _ _
      have h9 := Option.some.inj h
      subst h9
      exact J.js_ret J.je_bl fun v H o => ⟨_, rfl, J.Out.take 1 o⟩
    · replace h := J.ifF hp h
      change J.JS _ _ (⟨[(sR9 (.ref p0)), (sR9 (.ref p2)), (sV9 (x6 : Int)), (sV9 (x18.1 : (List Int))), (sV9 (x12 : (List Int))), (sV9 ((1 + x19.1) : Int)), (sV9 (x18.1 : (List Int))), (sV9 (x20 : Int)), sA9], [((He.cT K ("farthest", none)).2, (J.Cel.say (J.tabC ((("farthest" : St9) ++ ".<locals>.") ++ "<lambda>")))), (p2, (cL9 [(sO9 (cL9 ((x19.2.1 : List Int).map sV9))), (sV9 (x1.2.1 : Int)), (sV9 (x19.2.2 : Int))]))]⟩ : J.Stt) _ _
      refine J.js_end ?_
      change J.JS _ _ (⟨[(sR9 (.ref p0)), (sR9 (.ref p2)), (sV9 (x6 : Int)), (sV9 (x18.1 : (List Int))), (sV9 (x12 : (List Int))), (sV9 ((1 + x19.1) : Int)), (sV9 (x18.1 : (List Int))), (sV9 (x20 : Int)), sA9], [((He.cT K ("farthest", none)).2, (J.Cel.say (J.tabC ((("farthest" : St9) ++ ".<locals>.") ++ "<lambda>")))), (p2, (cL9 [(sO9 (cL9 ((x19.2.1 : List Int).map sV9))), (sV9 (x1.2.1 : Int)), (sV9 (x19.2.2 : Int))]))]⟩ : J.Stt) _ _
      obtain ⟨x23, hx23, h⟩ := J.bndE h
      refine J.js_if (J.jt_ne' (t := (x23 : Int)) (r := (x20 : Int)) hr (J.je_callK (f := F_fewest W) (ok_fewest (base := base) W) hr (by decide) W.g_fewest W.F_fewest.kp (kb_fewest_0 W) (J.jk_cons (J.je_var 5 rfl) (J.jk_cons (J.je_var 6 rfl) J.jk_nil)) (g := (⟨x18.1, (1 + x19.1), x23⟩ : G_fewest)) hx23 rfl (fun {T} {σ} {vs} {tv} {H} hl h => by
      match vs, hl, h with
      | [v1, v0], _, h =>
        have h := J.Sta.rot (xs := [_]) (T := [] ++ T) (vs := [v1]) (u := v0) (tv := [] ++ tv) rfl h
        exact ⟨rfl, h⟩) (.cons 0 rfl (by nofun) .nil) (.cons 0 rfl .nil) (hG := fun G e => trivial)) (J.je_var 7 rfl) J.dv_val J.dv_val) (fun hp => ?_) (fun hp => ?_)
      · replace h := J.ifT hp h
        have h9 := Option.some.inj h
        subst h9
        exact J.js_ret J.je_bl fun v H o => ⟨_, rfl, J.Out.take 1 o⟩
      · replace h := J.ifF hp h
        refine J.js_end ?_
        change J.JS _ _ (⟨[(sR9 (.ref p0)), (sR9 (.ref p2)), (sV9 (x6 : Int)), (sV9 (x18.1 : (List Int))), (sV9 (x12 : (List Int))), (sV9 ((1 + x19.1) : Int)), (sV9 (x18.1 : (List Int))), (sV9 (x20 : Int)), sA9], [((He.cT K ("farthest", none)).2, (J.Cel.say (J.tabC ((("farthest" : St9) ++ ".<locals>.") ++ "<lambda>")))), (p2, (cL9 [(sO9 (cL9 ((x19.2.1 : List Int).map sV9))), (sV9 (x1.2.1 : Int)), (sV9 (x19.2.2 : Int))]))]⟩ : J.Stt) _ _
        have h9 := Option.some.inj h
        subst h9
        exact J.js_nil fun T tv σ H g => ⟨_, rfl, (), J.le_fgt (sl := [(sR9 (.ref p0)), (sR9 (.ref p2)), sA9, sA9, sA9, sA9, sA9, sA9, sA9]) (cs := [((He.cT K ("farthest", none)).2, (J.Cel.say (J.tabC ((("farthest" : St9) ++ ".<locals>.") ++ "<lambda>")))), (p2, (cL9 [(sO9 (cL9 (((x19.2.1, x19.2.2).1 : List Int).map sV9))), (sV9 (x1.2.1 : Int)), (sV9 ((x19.2.1, x19.2.2).2 : Int))]))]) 2 (.keep (.keep (.drop (.drop (.drop (.drop (.drop (.drop (.drop .nil))))))))) rfl _ _ _ _ g⟩
  · subst e
    try rw [Sum.elim_inl] at h
    change J.JS _ _ (⟨[(sR9 (.ref p0)), (sR9 (.ref p2)), sA9, sA9, sA9, sA9, sA9, sA9, sA9], [((He.cT K ("farthest", none)).2, (J.Cel.say (J.tabC ((("farthest" : St9) ++ ".<locals>.") ++ "<lambda>")))), (p2, (cL9 [(sO9 (cL9 ((s24.1 : List Int).map sV9))), (sV9 (x1.2.1 : Int)), (sV9 (s24.2 : Int))]))]⟩ : J.Stt) _ _
    have h9 := Option.some.inj h
    subst h9
    exact J.js_ret J.je_bl fun v H o => J.Out.take 1 o
end
end Gk09
namespace J
universe u w
def Tot {α : Type u} (m : Option α) (P : α → Prop) : Prop := ∃ r, m = some r ∧ P r
theorem tot_some {α : Type u} {x : α} {P : α → Prop} (h : P x) : Tot (some x) P := ⟨x, rfl, h⟩
theorem tot_bind {α : Type u} {β : Type w} {m : Option α} {f : α → Option β} {P : α → Prop} {Q : β → Prop} (h : Tot m P) (k : ∀ x, P x → Tot (f x) Q) : Tot (m.bind f) Q := by
  obtain ⟨r, rfl, hr⟩ := h
  exact k r hr
theorem tot_let {α : Type u} {β : Type w} {x : α} {f : α → Option β} {Q : β → Prop} (h : Tot (f x) Q) : Tot ((some x).bind f) Q := h
theorem tot_ite {α : Type u} {c : Bool} {a b : Option α} {P : α → Prop} (h1 : c = true → Tot a P) (h2 : c = false → Tot b P) : Tot (if c = true then a else b) P := by
  cases c with
  | true => exact h1 rfl
  | false => exact h2 rfl
theorem tot_imp {α : Type u} {m : Option α} {P Q : α → Prop} (h : Tot m P) (k : ∀ x, P x → Q x) : Tot m Q := let ⟨r, e, p⟩ := h; ⟨r, e, k r p⟩
theorem cmpM_cons {ι α β : Type} {f : ι → α → Option (Option β × ι)} {x : α} {xs : List α} {s : ι} : cmpM f (x :: xs) s = (f s x).bind fun r => (cmpM f xs r.2).bind fun q => some ((match r.1 with | some y => y :: q.1 | none => q.1), q.2) := by
  show Option.bind (f s x) _ = _
  cases f s x with
  | none => rfl
  | some r =>
    obtain ⟨o, s'⟩ := r
    show Option.bind (cmpM f xs s') _ = Option.bind (cmpM f xs s') _
    cases cmpM f xs s' with
    | none => rfl
    | some q =>
      obtain ⟨ys, s2⟩ := q
      cases o <;> rfl
theorem cmpM_fm {α β : Type} {f : Unit → α → Option (Option β × Unit)} {g : α → Option β} : ∀ {xs : List α}, (∀ x ∈ xs, f () x = some (g x, ())) → cmpM f xs () = some (xs.filterMap g, ())
  | [], _ => rfl
  | x :: xs, h => by
    rw [cmpM_cons, h x List.mem_cons_self]
    show (cmpM f xs ()).bind _ = _
    rw [cmpM_fm fun y hy => h y (List.mem_cons_of_mem _ hy), List.filterMap_cons]
    cases e : g x with
    | none => simp [e]
    | some y => simp [e]
theorem lcM_fm {α β : Type} {f : Unit → α → Option (Option β × Unit)} {g : α → Option β} {xs : List α} (h : ∀ x ∈ xs, f () x = some (g x, ())) (hl : xs.length ≤ 16777216) : lcM f xs () = some (xs.filterMap g, ()) := by
  unfold lcM
  rw [if_pos hl, cmpM_fm h]
theorem lcM_filter {α : Type} {f : Unit → α → Option (Option α × Unit)} {p : α → Bool} {xs : List α} (h : ∀ x ∈ xs, f () x = some (if p x = true then some x else none, ())) (hl : xs.length ≤ 16777216) : lcM f xs () = some (xs.filter p, ()) := by
  rw [lcM_fm (g := fun x => if p x = true then some x else none) h hl]
  congr 2
  clear h hl
  induction xs with
  | nil => rfl
  | cons x xs ih =>
    rw [List.filterMap_cons, List.filter_cons, ← ih]
    by_cases e : p x = true
    · simp [e]
    · simp [e]
theorem psh_ok {α : Type u} {xs : List α} {x : α} (h : xs.length < 16777216) : psh xs x = some (xs ++ [x]) := if_pos h
theorem mulG_ok {i j : Int} (h : (-(18446744073709551616) < i ∧ i < 18446744073709551616) ∨ (-(18446744073709551616) < j ∧ j < 18446744073709551616)) : mulG i j = some (i * j) := if_pos h
theorem divG_ok {i j : Int} (h : 0 < j ∧ j < 18446744073709551616) : divG i j = some (i / j) := if_pos h
theorem modG_ok {i j : Int} (h : 0 < j) : modG i j = some (i % j) := if_pos h
theorem powG_ok {i : Int} {n : Nat} (h : i.natAbs < 18446744073709551616) : powG i n = some (i ^ n) := if_pos h
theorem rngG_ok {j : Int} (h : -(4611686018427387904 : Int) ≤ j ∧ j < 4611686018427387904) : rngG j = some (rng 0 j.toNat) := if_pos h
theorem remG_ok {α : Type} [DecidableEq α] {xs : List α} {t : α} (h : t ∈ xs) : remG xs t = some (xs.eraseIdx (xs.idxOf t)) := if_pos h
theorem idxG_ok {α : Type} [DecidableEq α] {xs : List α} {t : α} (h : t ∈ xs) : idxG xs t = some ((xs.idxOf t : Nat) : Int) := if_pos h
theorem gx_nat {α : Type u} {xs : List α} {i : Int} (h0 : 0 ≤ i) : gx xs i = xs[i.toNat]? := if_pos h0
theorem gx_ok {α : Type u} {xs : List α} {i : Int} (h : -(xs.length : Int) ≤ i ∧ i < xs.length) : ∃ t ∈ xs, gx xs i = some t := by
  unfold gx
  by_cases h0 : 0 ≤ i
  · rw [if_pos h0]
    have hl : i.toNat < xs.length := by omega
    exact ⟨xs[i.toNat], List.getElem_mem hl, List.getElem?_eq_getElem hl⟩
  · rw [if_neg h0, if_pos h.1]
    have hl : (i + xs.length).toNat < xs.length := by omega
    exact ⟨xs[(i + xs.length).toNat], List.getElem_mem hl, List.getElem?_eq_getElem hl⟩
/-- min, max of whole numbers -/
theorem fold_best (g : Int → Int → Bool) (le : Int → Int → Prop) (hr : ∀ a, le a a) (ht : ∀ a b c, le a b → le b c → le a c) (h1 : ∀ a y, g y a = true → le y a) (h2 : ∀ a y, g y a = false → le a y) : ∀ (ts : List Int) (t : Int), (ts.foldl (fun a y => if g y a = true then y else a) t) ∈ t :: ts ∧ ∀ x ∈ t :: ts, le (ts.foldl (fun a y => if g y a = true then y else a) t) x
  | [], t => ⟨List.mem_cons_self, fun x hx => by
      rcases List.mem_cons.mp hx with rfl | hx
      · exact hr _
      · cases hx⟩
  | y :: ys, t => by
    have ih := fold_best g le hr ht h1 h2 ys (if g y t = true then y else t)
    rw [List.foldl_cons]
    refine ⟨?_, fun x hx => ?_⟩
    · rcases List.mem_cons.mp ih.1 with e | e
      · rw [e]
        split
        · exact List.mem_cons_of_mem _ List.mem_cons_self
        · exact List.mem_cons_self
      · exact List.mem_cons_of_mem _ (List.mem_cons_of_mem _ e)
    · have q := ih.2 _ List.mem_cons_self
      rcases List.mem_cons.mp hx with rfl | hx
      · refine ht _ _ _ q ?_
        split
        · rename_i e; exact h1 _ _ e
        · exact hr _
      · rcases List.mem_cons.mp hx with rfl | hx
        · refine ht _ _ _ q ?_
          split
          · exact hr _
          · rename_i e; exact h2 _ _ (by simpa using e)
        · exact ih.2 x (List.mem_cons_of_mem _ hx)
theorem minG_int {xs : List Int} (h : xs ≠ []) : ∃ r ∈ xs, minG xs = some r ∧ ∀ x ∈ xs, r ≤ x := by
  cases xs with
  | nil => exact absurd rfl h
  | cons t ts =>
    have k := fold_best (fun a b => decide (a < b)) (fun a b => a ≤ b) (fun a => Int.le_refl a) (fun a b c => Int.le_trans) (fun a y e => by have := of_decide_eq_true e; omega) (fun a y e => by have := of_decide_eq_false e; omega) ts t
    exact ⟨_, k.1, rfl, k.2⟩
theorem tot_forB {ι α : Type} {f : ι → α → Option ι} (I : Nat → ι → Prop) (K : Nat) : ∀ {xs : List α} {k : Nat} {s : ι}, I k s → k + xs.length = K → (∀ k s x, x ∈ xs → k < K → I k s → Tot (f s x) (I (k + 1))) → Tot (forM f xs s) (I K)
  | [], k, s, h, e, _ => ⟨s, rfl, by have : k = K := e; subst this; exact h⟩
  | x :: xs, k, s, h, e, hf => by
    simp only [List.length_cons] at e
    show Tot ((f s x).bind (forM f xs)) _
    refine tot_bind (hf k s x List.mem_cons_self (by omega) h) fun s' h' => ?_
    exact tot_forB I K (xs := xs) h' (by omega) fun k s y hy => hf k s y (List.mem_cons_of_mem _ hy)
theorem tot_cmpB {ι α β : Type} {f : ι → α → Option (Option β × ι)} (I : Nat → ι → Prop) (R : α → β → Prop) (K : Nat) : ∀ {xs : List α} {k : Nat} {s : ι}, I k s → k + xs.length = K → (∀ k s x, x ∈ xs → k < K → I k s → Tot (f s x) fun r => (∃ y, r.1 = some y ∧ R x y) ∧ I (k + 1) r.2) → Tot (cmpM f xs s) fun r => r.1.length = xs.length ∧ (∀ y ∈ r.1, ∃ x ∈ xs, R x y) ∧ I K r.2
  | [], k, s, h, e, _ => ⟨([], s), rfl, rfl, (fun y hy => by simp at hy), by have : k = K := e; subst this; exact h⟩
  | x :: xs, k, s, h, e, hf => by
    simp only [List.length_cons] at e
    rw [cmpM_cons]
    refine tot_bind (hf k s x List.mem_cons_self (by omega) h) fun r hr => ?_
    obtain ⟨⟨y, hy, hR⟩, hI⟩ := hr
    refine tot_bind (tot_cmpB I R K (xs := xs) hI (by omega) fun k s y hy => hf k s y (List.mem_cons_of_mem _ hy)) fun q hq => ?_
    obtain ⟨h1, h2, h3⟩ := hq
    refine tot_some ⟨?_, ?_, h3⟩
    · rw [hy]
      simp [h1]
    · intro z hz
      rw [hy] at hz
      rcases List.mem_cons.mp hz with rfl | hz
      · exact ⟨x, List.mem_cons_self, hR⟩
      · obtain ⟨x', hx', hr⟩ := h2 z hz
        exact ⟨x', List.mem_cons_of_mem _ hx', hr⟩
theorem tot_lcB {ι α β : Type} {f : ι → α → Option (Option β × ι)} (I : Nat → ι → Prop) (R : α → β → Prop) {xs : List α} {s : ι} (h : I 0 s) (hl : xs.length ≤ 16777216) (hf : ∀ k s x, x ∈ xs → k < xs.length → I k s → Tot (f s x) fun r => (∃ y, r.1 = some y ∧ R x y) ∧ I (k + 1) r.2) : Tot (lcM f xs s) fun r => r.1.length = xs.length ∧ (∀ y ∈ r.1, ∃ x ∈ xs, R x y) ∧ I xs.length r.2 := by
  unfold lcM
  rw [if_pos hl]
  exact tot_cmpB I R xs.length h (Nat.zero_add _) hf
/-- a loop that never leaves early -/
theorem tot_forL {ι α ρ : Type} {f : ι → α → Option (Lp ι ρ)} (I : Nat → ι → Prop) (K : Nat) : ∀ {xs : List α} {k : Nat} {s : ι}, I k s → k + xs.length = K → (∀ k s x, x ∈ xs → k < K → I k s → Tot (f s x) fun o => ∃ s', o = .nx s' ∧ I (k + 1) s') → Tot (forL f xs s) fun o => ∃ s', o = .inl s' ∧ I K s'
  | [], k, s, h, e, _ => ⟨.inl s, rfl, s, rfl, by have : k = K := e; subst this; exact h⟩
  | x :: xs, k, s, h, e, hf => by
    simp only [List.length_cons] at e
    show Tot ((f s x).bind _) _
    refine tot_bind (hf k s x List.mem_cons_self (by omega) h) fun o ho => ?_
    obtain ⟨s', rfl, h'⟩ := ho
    exact tot_forL I K (xs := xs) h' (by omega) fun k s y hy => hf k s y (List.mem_cons_of_mem _ hy)
section
open PySem L2
theorem out_true {B : Base} {cs : List (Addr × Cel)} {v : V} {H : Hp} (h : Out B (.val true) cs v H) : v = .bl true := Sta.bool h
end
end J
namespace J
theorem setG_ok {xs : List Int} (h : xs.length ≤ 4000) : setG xs = some (sset xs) := if_pos h
theorem insS_len (x : Int) : ∀ l : List Int, (insS x l).length ≤ l.length + 1
  | [] => Nat.le_refl _
  | y :: ys => by
    unfold insS
    split
    · simp
    · split
      · simp
      · have := insS_len x ys
        simp only [List.length_cons]
        omega
theorem sset_len : ∀ l : List Int, (sset l).length ≤ l.length
  | [] => Nat.le_refl _
  | x :: l => by
    have h1 := insS_len x (sset l)
    have h2 := sset_len l
    show (insS x (sset l)).length ≤ _
    rw [List.length_cons]
    omega
theorem dget_put {β : Type} {m : List (Int × β)} {k q : Int} {v : β} : dget (dput m k v) q = if q = k then some v else dget m q := by
  unfold dput
  by_cases c : (m.any fun q => decide (q.1 = k)) = true
  · rw [if_pos c]
    induction m with
    | nil => simp at c
    | cons x m ih =>
      rw [List.map_cons]
      unfold dget
      rw [List.find?_cons, List.find?_cons]
      by_cases e : x.1 = k
      · rw [if_pos e]
        dsimp only
        by_cases e2 : q = k
        · rw [if_pos e2, decide_eq_true (by rw [e, e2])]
          rfl
        · rw [if_neg e2, decide_eq_false (show ¬ x.1 = q from fun h => e2 (h ▸ e))]
          dsimp only
          clear ih c
          congr 1
          induction m with
          | nil => rfl
          | cons y m ih =>
            rw [List.map_cons, List.find?_cons, List.find?_cons]
            by_cases e3 : y.1 = k
            · rw [if_pos e3]
              dsimp only
              rw [decide_eq_false (show ¬ y.1 = q from fun h => e2 (h ▸ e3))]
              exact ih
            · rw [if_neg e3]
              cases decide (y.1 = q)
              · exact ih
              · rfl
      · rw [if_neg e]
        have c2 : (m.any fun q => decide (q.1 = k)) = true := by
          rw [List.any_cons, decide_eq_false e, Bool.false_or] at c
          exact c
        by_cases e2 : x.1 = q
        · rw [decide_eq_true e2, if_neg (fun h => e (by rw [e2, h]))]
        · rw [decide_eq_false e2]
          exact ih c2
  · rw [if_neg c]
    have hn : ∀ x ∈ m, x.1 ≠ k := fun x hx e => c (List.any_eq_true.mpr ⟨x, hx, decide_eq_true e⟩)
    unfold dget
    rw [List.find?_append]
    by_cases e2 : q = k
    · rw [if_pos e2]
      have : m.find? (fun x => decide (x.1 = q)) = none := List.find?_eq_none.mpr fun x hx => by
        rw [decide_eq_true_eq, e2]
        exact hn x hx
      rw [this]
      subst e2
      simp
    · rw [if_neg e2]
      have : [(k, v)].find? (fun x => decide (x.1 = q)) = none := List.find?_eq_none.mpr fun x hx => by
        rw [List.mem_singleton.mp hx, decide_eq_true_eq]
        exact fun h => e2 h.symm
      rw [this]
      cases m.find? (fun x => decide (x.1 = q)) <;> rfl
theorem dget_drop {β : Type} {m : List (Int × β)} {g q : Int} : dget (ddrop m g) q = if q = g then none else dget m q := by
  unfold ddrop dget
  rw [List.find?_filter]
  by_cases e : q = g
  · rw [if_pos e, List.find?_eq_none.mpr fun x _ => by
      rw [decide_eq_true_eq, decide_eq_true_eq, decide_eq_true_eq]
      rintro ⟨h1, h2⟩
      exact h1 (h2.trans e)]
    rfl
  · rw [if_neg e]
    congr 2
    funext x
    rw [decide_eq_decide, decide_eq_true_eq, decide_eq_true_eq]
    exact ⟨fun h => h.2, fun h => ⟨fun h2 => e (h.symm.trans h2), h⟩⟩
theorem keys_iff {β : Type} {m : List (Int × β)} {q : Int} : q ∈ m.map (·.1) ↔ (dget m q).isSome = true := by
  unfold dget
  rw [Option.isSome_map, List.find?_isSome, List.mem_map]
  constructor
  · rintro ⟨x, h1, h2⟩; exact ⟨x, h1, decide_eq_true h2⟩
  · rintro ⟨x, h1, h2⟩; exact ⟨x, h1, of_decide_eq_true h2⟩
theorem dput_kn {β : Type} {m : List (Int × β)} {k : Int} {v : β} (h : (m.map (·.1)).Nodup) : ((dput m k v).map (·.1)).Nodup := by
  unfold dput
  split
  · rw [List.map_map, show ((fun x : Int × β => x.1) ∘ fun q => if q.1 = k then (q.1, v) else q) = fun x => x.1 from funext fun x => by show (if x.1 = k then (x.1, v) else x).1 = x.1; split <;> rfl]
    exact h
  · rename_i c
    rw [List.map_append]
    refine List.nodup_append.mpr ⟨h, by simp, fun a ha b hb e => ?_⟩
    rw [List.mem_singleton.mp hb] at e
    obtain ⟨x, hx, rfl⟩ := List.mem_map.mp ha
    exact c (List.any_eq_true.mpr ⟨x, hx, decide_eq_true e⟩)
theorem ddrop_kn {β : Type} {m : List (Int × β)} {k : Int} (h : (m.map (·.1)).Nodup) : ((ddrop m k).map (·.1)).Nodup := h.sublist (List.filter_sublist.map _)
/-- the page to go: the lowest that comes no more, or the one that comes last -/
def IsFar (later A : List Int) (g : Int) : Prop := g ∈ A ∧ ((g ∉ later ∧ ∀ x ∈ A, x ∉ later → g ≤ x) ∨ ((∀ x ∈ A, x ∈ later) ∧ ∀ x ∈ A, later.idxOf x ≤ later.idxOf g))
def farP (later A : List Int) : Option Int :=
  (lcM (fun (_ : Unit) (x : Int) => if (decide (x ∉ later)) = true then some (some x, ()) else some (none, ())) A ()).bind fun x4 => if (decide (x4.1 ≠ ([] : List Int))) = true then ((minG x4.1).bind fun x5 => some x5) else ((maxBy (fun y => (idxG later y).bind fun x8 => some x8) A).bind fun x9 => some x9)
theorem farP_ok {later A : List Int} (hne : A ≠ []) (hl : A.length ≤ 16777216) : ∃ g, farP later A = some g ∧ IsFar later A g := by
  unfold farP
  rw [lcM_filter (p := fun x => decide (x ∉ later)) (fun x _ => by by_cases c : x ∉ later <;> simp [c]) hl, Option.bind_some]
  dsimp only
  by_cases c : A.filter (fun x => decide (x ∉ later)) = []
  · rw [c, if_neg (by simp)]
    have all : ∀ x ∈ A, x ∈ later := fun x hx => Classical.byContradiction fun n => by
      have : x ∈ A.filter (fun x => decide (x ∉ later)) := List.mem_filter.mpr ⟨hx, decide_eq_true n⟩
      rw [c] at this
      cases this
    obtain ⟨g, e⟩ := maxBy_ok (k := fun y => (idxG later y).bind fun x8 => some x8) hne fun x hx => by
      rw [idxG_ok (all x hx)]
      rfl
    rw [e]
    obtain ⟨i, hi, hb⟩ := maxBy_best e
    have hg : g ∈ A := List.mem_of_getElem? hi
    refine ⟨g, rfl, hg, .inr ⟨all, fun x hx => ?_⟩⟩
    obtain ⟨j, hj⟩ := List.mem_iff_getElem?.mp hx
    have q := (hb j (List.getElem?_eq_some_iff.mp hj).1).1
    rw [keyAt_eq hi (show (idxG later g).bind _ = some ((later.idxOf g : Nat) : Int) by rw [idxG_ok (all g hg)]; rfl), keyAt_eq hj (show (idxG later x).bind _ = some ((later.idxOf x : Nat) : Int) by rw [idxG_ok (all x hx)]; rfl)] at q
    omega
  · rw [if_pos (decide_eq_true c)]
    obtain ⟨g, hg, e, hm⟩ := minG_int c
    rw [e]
    have hg2 := List.mem_filter.mp hg
    exact ⟨g, rfl, hg2.1, .inl ⟨of_decide_eq_true hg2.2, fun x hx hn => hm x (List.mem_filter.mpr ⟨hx, decide_eq_true hn⟩)⟩⟩
def farOf (later A : List Int) : Int := (farP later A).getD 0
theorem farOf_ok {later A : List Int} (hne : A ≠ []) (hl : A.length ≤ 16777216) : farP later A = some (farOf later A) ∧ IsFar later A (farOf later A) := by
  obtain ⟨g, e, h⟩ := farP_ok (later := later) hne hl
  unfold farOf
  rw [e]
  exact ⟨rfl, h⟩
theorem erase_ix {A : List Int} {g : Int} : A.eraseIdx (A.idxOf g) = A.erase g := (List.erase_eq_eraseIdx_of_idxOf rfl).symm
abbrev T3w := PySem.W.T3 Int PySem.Str (Option Int)
/-- what the walk by far tells, what it holds -/
def outF (r : Nat) (later A : List Int) (p : Int) : T3w := if p ∈ A then ⟨p, "hit", none⟩ else ⟨p, "fault", if A.length = r then some (farOf later A) else none⟩
def nxtF (r : Nat) (later A : List Int) (p : Int) : List Int := if p ∈ A then A else (if A.length = r then A.erase (farOf later A) else A) ++ [p]
def runF (r : Nat) : List Int → List Int → List T3w
  | _, [] => []
  | A, p :: l => outF r l A p :: runF r (nxtF r l A p) l
theorem runF_len (r : Nat) : ∀ (A l : List Int), (runF r A l).length = l.length
  | _, [] => rfl
  | A, p :: l => congrArg Nat.succ (runF_len r (nxtF r l A p) l)
theorem nxtF_ok {r : Nat} {later A : List Int} {p : Int} (hr : 1 ≤ r) (hn : A.Nodup) (hl : A.length ≤ r) (hb : A.length ≤ 16777216) : (nxtF r later A p).Nodup ∧ (nxtF r later A p).length ≤ r ∧ (nxtF r later A p).length ≤ A.length + 1 := by
  unfold nxtF
  by_cases c : p ∈ A
  · rw [if_pos c]; exact ⟨hn, hl, by omega⟩
  · rw [if_neg c]
    by_cases f : A.length = r
    · rw [if_pos f]
      have hne : A ≠ [] := fun e => by subst e; simp at f; omega
      have hg := (farOf_ok (later := later) hne hb).2.1
      have hlen := List.length_erase_of_mem hg
      refine ⟨List.nodup_append.mpr ⟨hn.erase _, by simp, ?_⟩, by rw [List.length_append, List.length_singleton]; omega, by rw [List.length_append, List.length_singleton]; omega⟩
      intro a ha b hb2 e
      have : b = p := by simpa using hb2
      subst this
      subst e
      exact c (List.mem_of_mem_erase ha)
    · rw [if_neg f]
      refine ⟨List.nodup_append.mpr ⟨hn, by simp, ?_⟩, by rw [List.length_append, List.length_singleton]; omega, by rw [List.length_append, List.length_singleton]; omega⟩
      intro a ha b hb2 e
      have : b = p := by simpa using hb2
      subst this
      subst e
      exact c ha
theorem slc_from {l : List Int} {n : Nat} (h : n ≤ l.length) : slc l (some (n : Int)) none = l.drop n := by
  unfold slc sx
  dsimp only
  rw [if_neg (by omega), Int.toNat_natCast, Nat.min_eq_left h, List.take_of_length_le (by rw [List.length_drop]; omega)]
end J
namespace J
abbrev T3 := PySem.W.T3 Int PySem.Str (Option Int)
structure Rel (m : List (Int × Int)) (H : List Int) (k : Nat) : Prop where
  kn : (m.map (·.1)).Nodup
  has : ∀ q, (dget m q).isSome = true ↔ q ∈ H
  ord : H.Pairwise fun a b => ∃ i j, dget m a = some i ∧ dget m b = some j ∧ i < j
  lt : ∀ q a, dget m q = some a → a < k
  nd : H.Nodup
theorem Rel.len {m : List (Int × Int)} {H : List Int} {k : Nat} (h : Rel m H k) : m.length = H.length := by
  have pm : (m.map (·.1)).Perm H := (List.perm_ext_iff_of_nodup h.kn h.nd).mpr fun q => by rw [keys_iff, h.has]
  rw [← pm.length_eq, List.length_map]
theorem pair_put {m : List (Int × Int)} {zs : List Int} {p : Int} {k : Nat} (ho : zs.Pairwise fun a b => ∃ i j, dget m a = some i ∧ dget m b = some j ∧ i < j) (hs : ∀ q ∈ zs, ∃ a, dget m q = some a ∧ a < k) (hp : p ∉ zs) : (zs ++ [p]).Pairwise fun a b => ∃ i j, dget (dput m p (k : Int)) a = some i ∧ dget (dput m p (k : Int)) b = some j ∧ i < j := by
  have old : ∀ q ∈ zs, dget (dput m p (k : Int)) q = dget m q := fun q hq => by rw [dget_put, if_neg fun e => hp (by rw [← e]; exact hq)]
  rw [List.pairwise_append]
  refine ⟨(List.Pairwise.and_mem.mp ho).imp fun {a b} ⟨ha, hb, i, j, h1, h2, h3⟩ => ⟨i, j, by rw [old a ha, h1], by rw [old b hb, h2], h3⟩, List.pairwise_singleton _ _, fun a ha b hb => ?_⟩
  rw [List.mem_singleton.mp hb]
  obtain ⟨i, h1, h2⟩ := hs a ha
  exact ⟨i, k, by rw [old a ha, h1], by rw [dget_put, if_pos rfl], h2⟩
theorem Rel.put {m : List (Int × Int)} {H : List Int} {k : Nat} {p : Int} (h : Rel m H k) (hp : p ∉ H) : Rel (dput m p (k : Int)) (H ++ [p]) (k + 1) where
  kn := dput_kn h.kn
  has := fun q => by
    rw [dget_put, List.mem_append, List.mem_singleton]
    by_cases e : q = p
    · rw [if_pos e]; exact ⟨fun _ => .inr e, fun _ => rfl⟩
    · rw [if_neg e, h.has]; exact ⟨.inl, fun h => h.elim id fun h => absurd h e⟩
  ord := pair_put h.ord (fun q hq => by
    obtain ⟨a, ha⟩ := Option.isSome_iff_exists.mp ((h.has q).mpr hq)
    exact ⟨a, ha, h.lt q a ha⟩) hp
  lt := fun q a => by
    rw [dget_put]
    by_cases e : q = p
    · rw [if_pos e]; intro h; have := Option.some.inj h; omega
    · rw [if_neg e]; intro h2; have := h.lt q a h2; omega
  nd := List.nodup_append.mpr ⟨h.nd, by simp, fun a ha b hb e => hp (by rw [List.mem_singleton.mp hb] at e; exact e ▸ ha)⟩
theorem Rel.drop {m : List (Int × Int)} {g : Int} {H : List Int} {k : Nat} (h : Rel m (g :: H) k) : Rel (ddrop m g) H k where
  kn := ddrop_kn h.kn
  has := fun q => by
    have hg := (List.nodup_cons.mp h.nd).1
    rw [dget_drop]
    by_cases e : q = g
    · rw [if_pos e, e]; exact ⟨fun h => by simp at h, fun h => absurd h hg⟩
    · rw [if_neg e, h.has, List.mem_cons]; exact ⟨fun h => h.elim (fun h => absurd h e) id, .inr⟩
  ord := by
    have hg := (List.nodup_cons.mp h.nd).1
    refine (List.Pairwise.and_mem.mp (List.pairwise_cons.mp h.ord).2).imp fun {a b} ⟨ha, hb, i, j, h1, h2, h3⟩ => ⟨i, j, ?_, ?_, h3⟩
    · rw [dget_drop, if_neg fun e => hg (by rw [← e]; exact ha), h1]
    · rw [dget_drop, if_neg fun e => hg (by rw [← e]; exact hb), h2]
  lt := fun q a ha => by
    rw [dget_drop] at ha
    split at ha
    · cases ha
    · exact h.lt q a ha
  nd := (List.nodup_cons.mp h.nd).2
def linedC (s3 : ((List (Int × Int)) × (List (PySem.W.T3 Int PySem.Str (Option Int))))) (s9 : Unit) (x11 : Int) : Option (Option (Int × Int) × Unit) :=
  (J.dget s3.1 x11).bind fun x12 => some (some (x12, x11), ())
def bl (mv : Bool) (a1 : Int) (s3 : List (Int × Int) × List T3) (x5 : Int × Int) : Option (List (Int × Int) × List T3) :=
  (J.ifM (J.dhas s3.1 x5.2) ( some ("hit" : PySem.Str)) ( some ("fault" : PySem.Str))).bind fun x6 => ((if ((decide (x6 = ("fault" : PySem.Str))) && (decide (((s3.1).length : Int) = a1))) = true then ((J.lcM (linedC s3) (s3.1.map (·.1)) ()).bind fun x13 => (J.gx (J.sortP x13.1) 0).bind fun x14 => ((some x14.2)).bind fun x15 => (J.dget s3.1 x15).bind fun x16 => some ((J.ddrop s3.1 x15), (some x14.2))) else ( some (s3.1, none)) : Option ((List (Int × Int)) × (Option Int)))).bind fun s7 => ((if ((decide (x6 = ("fault" : PySem.Str))) || mv) = true then ((J.dputG s7.1 x5.2 x5.1).bind fun x19 => some x19) else ( some s7.1) : Option (List (Int × Int)))).bind fun s17 => (J.psh s3.2 (PySem.W.T3.mk x5.2 x6 s7.2)).bind fun x20 => some (s17, x20)
def faultsOf (ts : List T3) : List T3 := ts.filter fun t => decide (t.b = ("fault" : PySem.Str))
end J
namespace J
end J
namespace J
def farB (a0 : (List Int)) (a1 : Int) (s3 : ((List Int) × (List (PySem.W.T3 Int PySem.Str (Option Int))))) (x5 : (Int × Int)) : Option ((List Int) × (List (PySem.W.T3 Int PySem.Str (Option Int)))) :=
  ((if (decide (x5.2 ∉ s3.1)) = true then (((if (decide (((s3.1).length : Int) = a1)) = true then ((farP (J.slc a0 (some (x5.1 + 1)) none) s3.1).bind fun x10 => ((some x10)).bind fun x11 => (J.remG s3.1 x11).bind fun x12 => some (x12, (some x10))) else ( some (s3.1, none)) : Option ((List Int) × (Option Int)))).bind fun s8 => (J.psh s8.1 x5.2).bind fun x13 => some (x13, (s8.2, ("fault" : PySem.Str)))) else ( some (s3.1, (none, ("hit" : PySem.Str)))) : Option ((List Int) × ((Option Int) × PySem.Str)))).bind fun s6 => (J.psh s3.2 (PySem.W.T3.mk x5.2 s6.2.2 s6.2.1)).bind fun x14 => some (s6.1, x14)
def farW (a0 : (List Int)) (a1 : Int) : Option (List (PySem.W.T3 Int PySem.Str (Option Int))) :=
  (J.forM (farB a0 a1) (J.enu 0 a0) (([] : List Int), ([] : List (PySem.W.T3 Int PySem.Str (Option Int))))).bind fun s15 => some s15.2
theorem prog_step {line A : List Int} {fnd : List T3w} {r n : Nat} {p : Int} {l : List Int} (hr : 1 ≤ r) (hd : line.drop n = p :: l) (hA : A.length ≤ 5000) (hf : fnd.length ≤ 5000) : farB line (r : Int) (A, fnd) ((n : Int), p) = some (nxtF r l A p, fnd ++ [outF r l A p]) := by
  unfold farB nxtF outF
  have hn : n < line.length := by
    have := congrArg List.length hd
    rw [List.length_drop, List.length_cons] at this
    omega
  have hd2 : line.drop (n + 1) = l := by rw [← List.drop_drop (i := 1) (j := n), hd] <;> rfl
  dsimp only
  by_cases c : p ∈ A
  · rw [if_neg (by simp [c]), Option.bind_some, if_pos c, if_pos c, psh_ok (by omega)]
    rfl
  · rw [if_pos (decide_eq_true c), if_neg c, if_neg c]
    by_cases f : A.length = r
    · have hne : A ≠ [] := fun e => by subst e; simp at f; omega
      have hg := farOf_ok (later := l) hne (by omega)
      have ef : farP l A = some (farOf l A) := hg.1
      rw [if_pos (decide_eq_true (by omega)), show ((n : Int) + 1) = ((n + 1 : Nat) : Int) by omega, slc_from (by omega), hd2, ef, Option.bind_some, Option.bind_some, remG_ok hg.2.1, Option.bind_some, Option.bind_some, erase_ix, psh_ok (by have := List.length_erase_le (a := farOf l A) (l := A); dsimp only; omega), Option.bind_some, Option.bind_some, psh_ok (by omega), if_pos f, if_pos f]
      rfl
    · rw [if_neg (by simp; omega), Option.bind_some, psh_ok (by dsimp only; omega), Option.bind_some, Option.bind_some, psh_ok (by omega), if_neg f, if_neg f]
      rfl
theorem prog_run {line : List Int} {r : Nat} (hr : 1 ≤ r) (hl : line.length ≤ 2000) : ∀ (l : List Int) (n : Nat) (A : List Int) (fnd : List T3w), line.drop n = l → A.Nodup → A.length ≤ r → A.length ≤ n → fnd.length = n → n + l.length ≤ 2000 → ∃ A', forM (farB line (r : Int)) (enu (n : Int) l) (A, fnd) = some (A', fnd ++ runF r A l)
  | [], n, A, fnd, _, _, _, _, _, _ => ⟨A, by rw [show runF r A [] = [] from rfl, List.append_nil]; rfl⟩
  | p :: l, n, A, fnd, hd, h1, h2, h3, h4, h5 => by
    simp only [List.length_cons] at h5
    have e1 := prog_step (fnd := fnd) hr hd (A := A) (by omega) (by omega)
    have hx := nxtF_ok (later := l) (p := p) hr h1 h2 (by omega)
    have hd2 : line.drop (n + 1) = l := by rw [← List.drop_drop (i := 1) (j := n), hd] <;> rfl
    obtain ⟨A', e2⟩ := prog_run hr hl l (n + 1) (nxtF r l A p) (fnd ++ [outF r l A p]) hd2 hx.1 hx.2.1 (by omega) (by rw [List.length_append, h4]; rfl) (by omega)
    refine ⟨A', ?_⟩
    show (farB line (r : Int) (A, fnd) ((n : Int), p)).bind (forM (farB line (r : Int)) (enu ((n : Int) + 1) l)) = _
    rw [e1, Option.bind_some, show ((n : Int) + 1) = ((n + 1 : Nat) : Int) by omega, e2, List.append_assoc]
    rfl
theorem farW_ok {line : List Int} {r : Nat} (hr : 1 ≤ r) (hl : line.length ≤ 2000) : farW line (r : Int) = some (runF r [] line) := by
  obtain ⟨A', e⟩ := prog_run hr hl line 0 [] [] rfl List.nodup_nil (Nat.zero_le _) (Nat.zero_le _) rfl (by omega)
  unfold farW
  rw [show ((0 : Nat) : Int) = 0 from rfl] at e
  rw [e]
  rfl
end J
namespace J
inductive Good (r : Nat) : List Int → List Int → List T3 → Prop where
  | nil (H : List Int) : Good r H [] []
  | hit {H H' : List Int} {p : Int} {l : List Int} {ts : List T3} : p ∈ H → H'.Nodup → (∀ x, x ∈ H' ↔ x ∈ H) → Good r H' l ts → Good r H (p :: l) (⟨p, "hit", none⟩ :: ts)
  | add {H H' : List Int} {p : Int} {l : List Int} {ts : List T3} : p ∉ H → H.length < r → H'.Nodup → (∀ x, x ∈ H' ↔ x = p ∨ x ∈ H) → Good r H' l ts → Good r H (p :: l) (⟨p, "fault", none⟩ :: ts)
  | swap {H H' : List Int} {p g : Int} {l : List Int} {ts : List T3} : p ∉ H → H.length = r → g ∈ H → H'.Nodup → (∀ x, x ∈ H' ↔ x = p ∨ (x ∈ H ∧ x ≠ g)) → Good r H' l ts → Good r H (p :: l) (⟨p, "fault", some g⟩ :: ts)
theorem same_len {A B : List Int} (ha : A.Nodup) (hb : B.Nodup) (h : ∀ x, x ∈ A ↔ x ∈ B) : A.length = B.length := ((List.perm_ext_iff_of_nodup ha hb).mpr h).length_eq
theorem add_len {A B : List Int} {p : Int} (ha : A.Nodup) (hb : B.Nodup) (hp : p ∉ B) (h : ∀ x, x ∈ A ↔ x = p ∨ x ∈ B) : A.length = B.length + 1 :=
  same_len (B := p :: B) ha (List.nodup_cons.mpr ⟨hp, hb⟩) fun x => by rw [h, List.mem_cons]
theorem swap_len {A B : List Int} {p g : Int} (ha : A.Nodup) (hb : B.Nodup) (hp : p ∉ B) (hg : g ∈ B) (h : ∀ x, x ∈ A ↔ x = p ∨ (x ∈ B ∧ x ≠ g)) : A.length = B.length := by
  have e : A.length = (p :: B.erase g).length := same_len ha (List.nodup_cons.mpr ⟨fun z => hp (List.mem_of_mem_erase z), hb.erase _⟩) fun x => by
    rw [h, List.mem_cons, List.Nodup.mem_erase_iff hb]
    constructor
    · rintro (z | ⟨z1, z2⟩)
      · exact .inl z
      · exact .inr ⟨z2, z1⟩
    · rintro (z | ⟨z1, z2⟩)
      · exact .inl z
      · exact .inr ⟨z2, z1⟩
  have := List.length_erase_of_mem hg
  have := List.length_pos_of_mem hg
  rw [e, List.length_cons]
  omega
theorem Good.len {r : Nat} {H l : List Int} {ts : List T3} (h : Good r H l ts) : ts.length = l.length := by
  induction h with
  | nil => rfl
  | hit _ _ _ _ ih => rw [List.length_cons, List.length_cons, ih]
  | add _ _ _ _ _ ih => rw [List.length_cons, List.length_cons, ih]
  | swap _ _ _ _ _ _ ih => rw [List.length_cons, List.length_cons, ih]
theorem mem_nxtF {r : Nat} {later A : List Int} {p x : Int} (hn : A.Nodup) (hr : 1 ≤ r) (hb : A.length ≤ 16777216) : x ∈ nxtF r later A p ↔ (p ∈ A ∧ x ∈ A) ∨ (p ∉ A ∧ (x = p ∨ (x ∈ A ∧ (A.length = r → x ≠ farOf later A)))) := by
  unfold nxtF
  by_cases c : p ∈ A
  · rw [if_pos c]; simp [c]
  · rw [if_neg c, List.mem_append, List.mem_singleton]
    by_cases f : A.length = r
    · rw [if_pos f, List.Nodup.mem_erase_iff hn]
      simp only [c, f, false_and, not_false_eq_true, true_and, false_or, forall_const]
      constructor
      · rintro (⟨z1, z2⟩ | z)
        · exact .inr ⟨z2, z1⟩
        · exact .inl z
      · rintro (z | ⟨z1, z2⟩)
        · exact .inr z
        · exact .inl ⟨z2, z1⟩
    · rw [if_neg f]
      simp only [c, f, false_and, not_false_eq_true, true_and, false_or, false_implies, and_true]
      exact or_comm
end J
namespace J
theorem faults_hit {p : Int} {ts : List T3} : (faultsOf (⟨p, "hit", none⟩ :: ts)).length = (faultsOf ts).length := rfl
theorem faults_add {p : Int} {g : Option Int} {ts : List T3} : (faultsOf (⟨p, "fault", g⟩ :: ts)).length = (faultsOf ts).length + 1 := rfl
structure Hd (m : List (Int × Bool)) (H : List Int) : Prop where
  kn : (m.map (·.1)).Nodup
  has : ∀ q, (dget m q).isSome = true ↔ q ∈ H
  nd : H.Nodup
theorem Hd.len {m : List (Int × Bool)} {H : List Int} (h : Hd m H) : m.length = H.length := by
  have pm : (m.map (·.1)).Perm H := (List.perm_ext_iff_of_nodup h.kn h.nd).mpr fun q => by rw [keys_iff, h.has]
  rw [← pm.length_eq, List.length_map]
def fFn (r : Nat) : List Int → List Int → Nat
  | _, [] => 0
  | A, p :: l => (if p ∈ A then 0 else 1) + fFn r (nxtF r l A p) l
theorem faults_runF {r : Nat} : ∀ (A l : List Int), (faultsOf (runF r A l)).length = fFn r A l
  | _, [] => rfl
  | A, p :: l => by
    have ih := faults_runF (r := r) (nxtF r l A p) l
    show (faultsOf (outF r l A p :: runF r (nxtF r l A p) l)).length = (if p ∈ A then 0 else 1) + fFn r (nxtF r l A p) l
    unfold outF
    by_cases c : p ∈ A
    · rw [if_pos c, if_pos c, faults_hit, ih, Nat.zero_add]
    · rw [if_neg c, if_neg c, faults_add, ih, Nat.add_comm]
/-- how many of X come among the first t -/
def near (X l : List Int) (t : Nat) : Nat := (X.filter fun x => decide (x ∈ l.take t)).length
theorem near_le (X l : List Int) (t : Nat) : near X l t ≤ X.length := List.length_filter_le _ _
/-- the page asked for, then the rest -/
theorem near_cons {X : List Int} (hn : X.Nodup) (p : Int) (l : List Int) (t : Nat) : near X (p :: l) (t + 1) = (if p ∈ X ∧ p ∉ l.take t then 1 else 0) + near X l t := by
  unfold near
  rw [List.take_succ_cons]
  induction X with
  | nil => simp
  | cons x X ih =>
    have hn2 := List.nodup_cons.mp hn
    have ih := ih hn2.2
    rw [List.filter_cons, List.filter_cons]
    by_cases e : x = p
    · subst e
      have hx : x ∉ X := hn2.1
      rw [if_pos (by simp)]
      have e1 : (X.filter fun y => decide (y ∈ x :: l.take t)).length = (X.filter fun y => decide (y ∈ l.take t)).length := by
        have := ih
        rw [if_neg (fun z => hx z.1), Nat.zero_add] at this
        exact this
      by_cases c : x ∈ l.take t
      · rw [if_pos (decide_eq_true c), if_neg (fun z => z.2 c), List.length_cons, List.length_cons, e1, Nat.zero_add]
      · rw [if_neg (show ¬ (decide (x ∈ l.take t) = true) by simpa using c), if_pos ⟨List.mem_cons_self, c⟩, List.length_cons, e1, Nat.add_comm]
    · have e2 : (p ∈ x :: X ∧ p ∉ l.take t) ↔ (p ∈ X ∧ p ∉ l.take t) := by
        rw [List.mem_cons]
        constructor
        · rintro ⟨z | z, y⟩
          · exact absurd z.symm e
          · exact ⟨z, y⟩
        · rintro ⟨z, y⟩
          exact ⟨.inr z, y⟩
      have e3 : (decide (x ∈ p :: l.take t)) = decide (x ∈ l.take t) := by
        rw [decide_eq_decide, List.mem_cons]
        exact ⟨fun z => z.resolve_left e, .inr⟩
      rw [e3]
      simp only [e2]
      by_cases c : x ∈ l.take t
      · rw [if_pos (decide_eq_true c), if_pos (decide_eq_true c), List.length_cons, List.length_cons, ih]
        omega
      · rw [if_neg (show ¬ (decide (x ∈ l.take t) = true) by simpa using c), if_neg (show ¬ (decide (x ∈ l.take t) = true) by simpa using c), ih]
theorem near_same {A B : List Int} (ha : A.Nodup) (hb : B.Nodup) (h : ∀ x, x ∈ A ↔ x ∈ B) (l : List Int) (t : Nat) : near A l t = near B l t :=
  same_len (ha.filter _) (hb.filter _) fun x => by rw [List.mem_filter, List.mem_filter, h]
theorem near_add {A B : List Int} {p : Int} (ha : A.Nodup) (hb : B.Nodup) (hp : p ∉ B) (h : ∀ x, x ∈ A ↔ x = p ∨ x ∈ B) (l : List Int) (t : Nat) : near A l t = (if p ∈ l.take t then 1 else 0) + near B l t := by
  have e : near A l t = near (p :: B) l t := near_same ha (List.nodup_cons.mpr ⟨hp, hb⟩) (fun x => by rw [h, List.mem_cons]) l t
  rw [e]
  unfold near
  rw [List.filter_cons]
  by_cases c : p ∈ l.take t
  · rw [if_pos (decide_eq_true c), if_pos c, List.length_cons, Nat.add_comm]
  · rw [if_neg (by simpa using c), if_neg c, Nat.zero_add]
theorem near_swap {A B : List Int} {p g : Int} (ha : A.Nodup) (hb : B.Nodup) (hp : p ∉ B) (hg : g ∈ B) (h : ∀ x, x ∈ A ↔ x = p ∨ (x ∈ B ∧ x ≠ g)) (l : List Int) (t : Nat) : near A l t + (if g ∈ l.take t then 1 else 0) = (if p ∈ l.take t then 1 else 0) + near B l t := by
  have e1 : near A l t = (if p ∈ l.take t then 1 else 0) + near (B.erase g) l t := near_add ha (hb.erase _) (fun z => hp (List.mem_of_mem_erase z)) (fun x => by
    rw [h, List.Nodup.mem_erase_iff hb]
    constructor
    · rintro (z | ⟨z1, z2⟩)
      · exact .inl z
      · exact .inr ⟨z2, z1⟩
    · rintro (z | ⟨z1, z2⟩)
      · exact .inl z
      · exact .inr ⟨z2, z1⟩) l t
  have e2 : near B l t = (if g ∈ l.take t then 1 else 0) + near (B.erase g) l t := near_add hb (hb.erase _) (fun z => ((List.Nodup.mem_erase_iff hb).mp z).1 rfl) (fun x => by
    rw [List.Nodup.mem_erase_iff hb]
    constructor
    · intro z
      by_cases c : x = g
      · exact .inl c
      · exact .inr ⟨c, z⟩
    · rintro (z | ⟨_, z⟩)
      · exact z ▸ hg
      · exact z) l t
  omega
theorem near_all {X l : List Int} {t : Nat} (h : ∀ x ∈ X, x ∈ l.take t) : near X l t = X.length := by
  unfold near
  rw [List.filter_eq_self.mpr fun x hx => decide_eq_true (h x hx)]
/-- if the farthest comes soon, all do -/
theorem far_soon {l A : List Int} {g : Int} {t : Nat} (h : IsFar l A g) (hg : g ∈ l.take t) : ∀ x ∈ A, x ∈ l.take t := by
  intro x hx
  have hgl : g ∈ l := List.mem_of_mem_take hg
  obtain ⟨_, h | ⟨h1, h2⟩⟩ := h
  · exact absurd hgl h.1
  · have hxl := h1 x hx
    have i1 := List.idxOf_lt_length_iff.mpr hxl
    have le := h2 x hx
    have hgt : l.idxOf g < t := by
      have e : (l.take t).idxOf g < (l.take t).length := List.idxOf_lt_length_iff.mpr hg
      have e2 : l.idxOf g = (l.take t).idxOf g := by
        rw [← List.take_append_drop t l, List.idxOf_append, if_pos]
        · simp
        · simpa using hg
      rw [List.length_take] at e
      omega
    rw [List.mem_take_iff_getElem]
    exact ⟨l.idxOf x, by omega, List.getElem_idxOf i1⟩
theorem near_miss {B l : List Int} {q : Int} {t : Nat} (hb : B.Nodup) (hq : q ∈ B) (h : q ∉ l.take t) : near B l t + 1 ≤ B.length := by
  have e3 : near B l t = (if q ∈ l.take t then 1 else 0) + near (B.erase q) l t := near_add hb (hb.erase _) (fun z => ((List.Nodup.mem_erase_iff hb).mp z).1 rfl) (fun x => by
    rw [List.Nodup.mem_erase_iff hb]
    constructor
    · intro z
      by_cases c : x = q
      · exact .inl c
      · exact .inr ⟨c, z⟩
    · rintro (z | ⟨_, z⟩)
      · exact z ▸ hq
      · exact z) l t
  have e4 := near_le (B.erase q) l t
  have e5 := List.length_erase_of_mem hq
  have e6 := List.length_pos_of_mem hq
  rw [if_neg h] at e3
  omega
theorem far_near {r : Nat} (hr : 1 ≤ r) {A l : List Int} {p : Int} (ha : A.Nodup) (c : p ∉ A) (la : A.length ≤ r) (hs : A.length ≤ 16777216) (t : Nat) : near (nxtF r l A p) l t = (if p ∈ l.take t then 1 else 0) + near A l t ∨ near (nxtF r l A p) l t + 1 = (if p ∈ l.take t then 1 else 0) + r := by
  have nx := nxtF_ok (later := l) (p := p) hr ha la hs
  have mem := fun x => mem_nxtF (later := l) (p := p) (x := x) ha hr hs
  by_cases f : A.length = r
  · have hne : A ≠ [] := fun e => by subst e; simp at f; omega
    have far := (farOf_ok (later := l) hne hs).2
    have sw := near_swap nx.1 ha c far.1 (fun x => by rw [mem]; simp [c, f]) l t
    by_cases gs : farOf l A ∈ l.take t
    · have all := near_all (far_soon far gs)
      rw [if_pos gs] at sw
      exact .inr (by omega)
    · rw [if_neg gs] at sw
      exact .inl (by omega)
  · exact .inl (near_add nx.1 ha c (fun x => by rw [mem]; simp [c, f]) l t)
theorem belady {r : Nat} (hr : 1 ≤ r) {B l : List Int} {ts : List T3} (g : Good r B l ts) : ∀ (A : List Int) (d : Nat), A.Nodup → B.Nodup → A.length ≤ r → B.length ≤ r → A.length + l.length ≤ 16777216 → (∀ t, near B l t ≤ near A l t + d) → fFn r A l ≤ (faultsOf ts).length + d := by
  induction g with
  | nil H => intro A d _ _ _ _ _ _; exact Nat.zero_le _
  | @hit B B' p l ts hp hn2 hm g ih =>
    intro A d ha hb la lb hs h
    simp only [List.length_cons] at hs
    have nx := nxtF_ok (later := l) (p := p) hr ha la (by omega)
    have lB := same_len hn2 hb hm
    show (if p ∈ A then 0 else 1) + fFn r (nxtF r l A p) l ≤ _
    rw [faults_hit]
    by_cases c : p ∈ A
    · rw [if_pos c, Nat.zero_add]
      have eA : nxtF r l A p = A := by unfold nxtF; rw [if_pos c]
      rw [eA]
      refine ih A d ha hn2 la (by omega) (by omega) fun t => ?_
      have h1 := h (t + 1)
      rw [near_cons hb, near_cons ha] at h1
      have e := near_same hn2 hb hm l t
      simp only [hp, c, true_and] at h1
      omega
    · rw [if_neg c]
      have hd : 1 ≤ d := by
        have h1 := h 1
        rw [near_cons hb, near_cons ha] at h1
        simp only [hp, c, true_and, false_and, if_false, List.take_zero, List.not_mem_nil, not_false_eq_true, if_true] at h1
        have : near A l 0 = 0 := by unfold near; simp
        omega
      have := ih (nxtF r l A p) (d - 1) nx.1 hn2 nx.2.1 (by omega) (by omega) fun t => ?_
      · omega
      · have h1 := h (t + 1)
        rw [near_cons hb, near_cons ha] at h1
        have e := near_same hn2 hb hm l t
        simp only [hp, c, true_and, false_and, if_false] at h1
        have nb := near_le B l t
        have fn := far_near hr ha c la (by omega) (l := l) t
        by_cases pt : p ∈ l.take t
        · simp only [pt, not_true_eq_false, if_false, if_true] at h1 fn
          rcases fn with fn | fn <;> omega
        · have miss := near_miss hb hp pt
          simp only [pt, not_false_eq_true, if_true, if_false] at h1 fn
          rcases fn with fn | fn <;> omega
  | @add B B' p l ts hp hlt hn2 hm g ih =>
    intro A d ha hb la lb hs h
    simp only [List.length_cons] at hs
    have nx := nxtF_ok (later := l) (p := p) hr ha la (by omega)
    have lB := add_len hn2 hb hp hm
    show (if p ∈ A then 0 else 1) + fFn r (nxtF r l A p) l ≤ _
    rw [faults_add]
    by_cases c : p ∈ A
    · rw [if_pos c, Nat.zero_add]
      have eA : nxtF r l A p = A := by unfold nxtF; rw [if_pos c]
      rw [eA]
      have := ih A (d + 1) ha hn2 la (by omega) (by omega) fun t => ?_
      · omega
      · have h1 := h (t + 1)
        rw [near_cons hb, near_cons ha] at h1
        have e := near_add hn2 hb hp hm l t
        simp only [hp, c, true_and, false_and, if_false] at h1
        by_cases pt : p ∈ l.take t
        · simp only [pt, not_true_eq_false, if_false, if_true] at h1 e; omega
        · simp only [pt, not_false_eq_true, if_true, if_false] at h1 e; omega
    · rw [if_neg c]
      have := ih (nxtF r l A p) d nx.1 hn2 nx.2.1 (by omega) (by omega) fun t => ?_
      · omega
      · have h1 := h (t + 1)
        rw [near_cons hb, near_cons ha] at h1
        have e := near_add hn2 hb hp hm l t
        simp only [hp, c, false_and, if_false] at h1
        have nb := near_le B l t
        have fn := far_near hr ha c la (by omega) (l := l) t
        rcases fn with fn | fn <;> omega
  | @swap B B' p q l ts hp hlen hq hn2 hm g ih =>
    intro A d ha hb la lb hs h
    simp only [List.length_cons] at hs
    have nx := nxtF_ok (later := l) (p := p) hr ha la (by omega)
    have lB := swap_len hn2 hb hp hq hm
    show (if p ∈ A then 0 else 1) + fFn r (nxtF r l A p) l ≤ _
    rw [faults_add]
    by_cases c : p ∈ A
    · rw [if_pos c, Nat.zero_add]
      have eA : nxtF r l A p = A := by unfold nxtF; rw [if_pos c]
      rw [eA]
      have := ih A (d + 1) ha hn2 la (by omega) (by omega) fun t => ?_
      · omega
      · have h1 := h (t + 1)
        rw [near_cons hb, near_cons ha] at h1
        have e := near_swap hn2 hb hp hq hm l t
        simp only [hp, c, true_and, false_and, if_false] at h1
        by_cases pt : p ∈ l.take t
        · simp only [pt, not_true_eq_false, if_false, if_true] at h1 e; omega
        · simp only [pt, not_false_eq_true, if_true, if_false] at h1 e; omega
    · rw [if_neg c]
      have := ih (nxtF r l A p) d nx.1 hn2 nx.2.1 (by omega) (by omega) fun t => ?_
      · omega
      · have h1 := h (t + 1)
        rw [near_cons hb, near_cons ha] at h1
        have e := near_swap hn2 hb hp hq hm l t
        simp only [hp, c, false_and, if_false] at h1
        have nb := near_le B l t
        have fn := far_near hr ha c la (by omega) (l := l) t
        by_cases qt : q ∈ l.take t
        · rw [if_pos qt] at e
          rcases fn with fn | fn <;> omega
        · have miss := near_miss hb hq qt
          rw [if_neg qt] at e
          rcases fn with fn | fn <;> omega
/-- the walk by far makes the fewest faults -/
theorem far_fewest {r : Nat} (hr : 1 ≤ r) {l : List Int} {ts : List T3} (hl : l.length ≤ 5000) (g : Good r [] l ts) : (faultsOf (runF r [] l)).length ≤ (faultsOf ts).length := by
  rw [faults_runF]
  exact belady hr g [] 0 List.nodup_nil List.nodup_nil (Nat.zero_le _) (Nat.zero_le _) (by simp; omega) fun t => Nat.le_refl _
end J
namespace Gk09
open J PySem
open PySem.W (Datum)
structure Bg (N fold turn : Int) (great : List Int) : Prop where
  f0 : 0 ≤ fold
  f1 : fold < 2305843009213693951
  t0 : 0 ≤ turn
  t1 : turn ≤ N
  few : great.length ≤ 63
theorem Bg.mono {N M fold turn : Int} {great : List Int} (h : Bg N fold turn great) (e : N ≤ M) : Bg M fold turn great := ⟨h.f0, h.f1, h.t0, Int.le_trans h.t1 e, h.few⟩
theorem insG_ok {xs : List Int} {v : Int} (h : xs.length < 63) : ∃ ys, J.insG xs 0 v = some ys ∧ ys.length = xs.length + 1 := by
  unfold J.insG
  rw [if_pos ⟨by omega, by omega, by omega⟩]
  exact ⟨_, rfl, by simp⟩
theorem deck_ok {ns : List Int} (hl : ns.length ≤ 63) : Tot (m_law_deck ns) fun r => Bg 0 r.2.1 r.2.2 r.1 := by
  unfold m_law_deck
  refine tot_bind (tot_forB (I := fun k s => (0 ≤ s.2 ∧ s.2 < 2305843009213693951) ∧ s.1.length ≤ k) (K := ns.length) (k := 0) ⟨by dsimp only; omega, Nat.le_refl _⟩ (Nat.zero_add _) fun k s x _ hk hI => ?_) fun s hs => ?_
  · obtain ⟨h1, h2⟩ := hI
    unfold m_law_deck_b0
    refine tot_let ?_
    refine tot_bind (P := fun l : List Int => l.length ≤ k + 1) (tot_ite (fun c => ?_) fun c => tot_some (by omega)) fun l hl => ?_
    · obtain ⟨ys, e, hy⟩ := insG_ok (xs := s.1) (v := (if x < 0 then -x else x) - 1000000000000000000) (by omega)
      rw [e]
      exact tot_some (by omega)
    · exact tot_some ⟨⟨Int.emod_nonneg _ (by omega), Int.emod_lt_of_pos _ (by omega)⟩, hl⟩
  · obtain ⟨h1, h2⟩ := hs
    exact tot_some ⟨h1.1, h1.2, by dsimp only; omega, by dsimp only; omega, by dsimp only; omega⟩
theorem gx_last {xs : List Int} (h : xs ≠ []) : ∃ x, gx xs (-1) = some x ∧ xs.getLast? = some x := by
  have hl : 0 < xs.length := List.length_pos_iff.mpr h
  refine ⟨xs[xs.length - 1], ?_, ?_⟩
  · unfold gx
    rw [if_neg (by omega), if_pos (by omega), show ((-1 : Int) + xs.length).toNat = xs.length - 1 by omega, List.getElem?_eq_getElem (by omega)]
  · rw [List.getLast?_eq_getElem?, List.getElem?_eq_getElem (by omega)]
theorem pop0 : ∀ (n : Nat) (g : List Int), g.length < n → g.length ≤ 63 → Tot (whileM m_law_take_t0 m_law_take_w1 n g) fun s => s.length ≤ 63
  | 0, g, h, _ => absurd h (by omega)
  | n + 1, g, h1, h2 => by
    by_cases hg : g = []
    · subst hg
      exact ⟨[], rfl, h2⟩
    · obtain ⟨x, e1, e2⟩ := gx_last hg
      have e : m_law_take_t0 g = some (decide (x < 2)) := by
        unfold m_law_take_t0
        rw [decide_eq_true hg, e1]
        rfl
      show Tot ((m_law_take_t0 g).bind _) _
      rw [e]
      refine tot_let (tot_ite (fun c => ?_) fun c => tot_some h2)
      have e3 : m_law_take_w1 g = some g.dropLast := by
        unfold m_law_take_w1 lastG
        rw [e2]
        rfl
      rw [e3]
      have hl : 0 < g.length := List.length_pos_iff.mpr hg
      exact tot_let (pop0 n g.dropLast (by rw [List.length_dropLast]; omega) (by rw [List.length_dropLast]; omega))
theorem take_ok {N fold turn many : Int} {great : List Int} (h : Bg N fold turn great) (hm : 1 ≤ many ∧ many < 1000000000000) (hN : N < 1000000) : Tot (m_law_take many great fold turn) fun r => (0 ≤ r.1 ∧ r.1 < many) ∧ Bg (N + 1) fold r.2.2 r.2.1 := by
  unfold m_law_take
  obtain ⟨f0, f1, t0, t1, few⟩ := h
  refine tot_bind (pop0 _ great (by omega) few) fun s hs => ?_
  refine tot_ite (fun c => ?_) fun c => ?_
  · have hne : s ≠ [] := of_decide_eq_true c
    obtain ⟨x, e1, e2⟩ := gx_last hne
    rw [e1, Option.bind_some, modG_ok (by omega), Option.bind_some, Option.bind_some, divG_ok (by omega), Option.bind_some]
    have hl : 0 < s.length := List.length_pos_iff.mpr hne
    have : stx s (-1) (x / many) = some (s.set (s.length - 1) (x / many)) := by
      unfold stx
      have : ixp s.length (-1) = some (s.length - 1) := by
        unfold ixp
        rw [if_neg (by omega), if_pos (by omega)]
        congr 1
        omega
      rw [this]
      rfl
    rw [this]
    exact tot_some ⟨⟨Int.emod_nonneg _ (by omega), Int.emod_lt_of_pos _ (by omega)⟩, f0, f1, t0, by dsimp only; omega, by rw [List.length_set]; exact hs⟩
  · rw [powG_ok (by omega), Option.bind_some, mulG_ok (.inl (by omega)), Option.bind_some, Option.bind_some]
    have hmod : ∀ z : Int, (z % 2305843009213693951).natAbs < 18446744073709551616 := fun z => by
      have := Int.emod_nonneg z (b := 2305843009213693951) (by omega)
      have := Int.emod_lt_of_pos z (b := 2305843009213693951) (by omega)
      omega
    rw [powG_ok (hmod _), Option.bind_some, modG_ok (by omega)]
    exact tot_some ⟨⟨Int.emod_nonneg _ (by omega), Int.emod_lt_of_pos _ (by omega)⟩, f0, f1, by dsimp only; omega, by dsimp only; omega, hs⟩
theorem pool_ok {N fold turn : Int} {great : List Int} (h : Bg N fold turn great) (hN : N < 100000) : Tot (m_law_pool great fold turn) fun r => (1 ≤ r.1.length ∧ r.1.length ≤ 199) ∧ Bg (N + 210) fold r.2.2 r.2.1 := by
  unfold m_law_pool
  refine tot_bind (take_ok h (by omega) (by omega)) fun x1 h1 => ?_
  obtain ⟨⟨a0, a1⟩, hb⟩ := h1
  obtain ⟨t, ht, e⟩ := gx_ok (xs := ([2, 4, 6, 9, 40, 198] : List Int)) (i := x1.1) (by simp; omega)
  have ht2 : 2 ≤ t ∧ t ≤ 198 := by
    simp at ht
    omega
  rw [e]
  refine tot_let (tot_bind (take_ok hb (by omega) (by omega)) fun x3 h3 => ?_)
  obtain ⟨⟨w0, w1⟩, hb⟩ := h3
  refine tot_bind (take_ok hb (by omega) (by omega)) fun x5 h5 => ?_
  obtain ⟨⟨b0, b1⟩, hb⟩ := h5
  refine tot_bind (take_ok hb (by omega) (by omega)) fun x6 h6 => ?_
  obtain ⟨_, hb⟩ := h6
  obtain ⟨c, hc, e⟩ := gx_ok (xs := ([(2 + x5.1), 1] : List Int)) (i := (if (decide (x6.1 = 5)) then (1 : Int) else 0)) (by split <;> simp)
  have hc2 : 1 ≤ c ∧ c ≤ 199 := by
    simp at hc
    omega
  rw [e]
  refine tot_let ?_
  rw [rngG_ok (by omega)]
  refine tot_let ?_
  refine tot_bind (tot_forB (I := fun k s => Bg (N + 4 + k) fold s.2.1 s.1 ∧ s.2.2.length ≤ k ∧ (1 ≤ k → 1 ≤ s.2.2.length)) (K := c.toNat) (k := 0) ⟨hb.mono (by omega), Nat.le_refl _, fun h => absurd h (by omega)⟩ (by rw [rng_len]; omega) fun k s x hx hk hI => ?_) fun s hs => ?_
  · obtain ⟨hb, h1, h2⟩ := hI
    unfold m_law_pool_b0
    refine tot_bind (take_ok hb (by omega) (by omega)) fun u hu => ?_
    obtain ⟨_, hb⟩ := hu
    obtain ⟨d, _, e⟩ := gx_ok (xs := ([x, (1000000000 - (3 * x)), u.1] : List Int)) (i := x3.1) (by simp; omega)
    rw [e]
    refine tot_let ?_
    refine tot_bind (P := fun l : List Int => l.length ≤ k + 1 ∧ 1 ≤ l.length) (tot_ite (fun c => ?_) fun c => ?_) fun l hl => ?_
    · rw [psh_ok (by omega)]
      exact tot_some (by simp; omega)
    · have c := of_decide_eq_false c
      have hd : d ∈ s.2.2 := Classical.not_not.mp c
      have : 0 < s.2.2.length := List.length_pos_of_mem hd
      exact tot_some ⟨by omega, by omega⟩
    · exact tot_some ⟨hb.mono (by omega), hl.1, fun _ => hl.2⟩
  · obtain ⟨hb, h1, h2⟩ := hs
    exact tot_some ⟨⟨h2 (by omega), by dsimp only; omega⟩, hb.mono (by omega)⟩
theorem trace_ok {N fold turn : Int} {great : List Int} (h : Bg N fold turn great) (hN : N < 90000) : Tot (m_law_trace 200 great fold turn) fun r => r.1.length ≤ 200 ∧ Bg (N + 1000) fold r.2.2 r.2.1 := by
  unfold m_law_trace
  refine tot_bind (pool_ok h (by omega)) fun x1 h1 => ?_
  obtain ⟨⟨p0, p1⟩, hb⟩ := h1
  refine tot_bind (take_ok hb (by omega) (by omega)) fun x2 h2 => ?_
  obtain ⟨b2, hb⟩ := h2
  refine tot_bind (take_ok hb (by omega) (by omega)) fun x3 h3 => ?_
  obtain ⟨b3, hb⟩ := h3
  refine tot_bind (take_ok hb (by omega) (by omega)) fun x4 h4 => ?_
  obtain ⟨b4, hb⟩ := h4
  refine tot_bind (take_ok hb (by omega) (by omega)) fun x5 h5 => ?_
  obtain ⟨b5, hb⟩ := h5
  obtain ⟨t, ht, e⟩ := gx_ok (xs := ([x2.1, x3.1, x4.1] : List Int)) (i := x5.1) (by simp; omega)
  have ht2 : 0 ≤ t ∧ t ≤ 200 := by
    simp at ht
    omega
  rw [e]
  refine tot_let (tot_bind (take_ok hb (by omega) (by omega)) fun x7 h7 => ?_)
  obtain ⟨_, hb⟩ := h7
  obtain ⟨n, hn⟩ : ∃ n : Nat, (if t < 200 then t else 200) = n := ⟨(if t < 200 then t else 200).toNat, by split <;> omega⟩
  have hn2 : n ≤ 200 := by split at hn <;> omega
  rw [hn, rngG_ok (by omega)]
  refine tot_let ?_
  refine tot_bind (tot_forB (I := fun k s => Bg (N + 216 + 2 * k) fold s.2.1 s.1 ∧ s.2.2.1.length = k) (K := n) (k := 0) ⟨hb.mono (by omega), rfl⟩ (by rw [rng_len]; omega) fun k s x hx hk hI => ?_) fun s hs => ?_
  · obtain ⟨hb, hl⟩ := hI
    unfold m_law_trace_b0
    refine tot_bind (take_ok hb (by omega) (by omega)) fun u hu => ?_
    obtain ⟨_, hb⟩ := hu
    refine tot_bind (P := fun q : List Int × (Int × Int) => Bg (N + 216 + 2 * k + 1 + 1) fold q.2.1 q.1) (tot_ite (fun _ => ?_) fun _ => ?_) fun q hq => ?_
    · refine tot_bind (take_ok hb (by omega) (by omega)) fun v hv => ?_
      exact tot_some hv.2
    · refine tot_bind (P := fun q : List Int × (Int × Int) => Bg (N + 216 + 2 * k + 1 + 1) fold q.2.1 q.1) (tot_ite (fun _ => tot_some (hb.mono (by omega))) fun _ => ?_) fun q hq => tot_some hq
      refine tot_bind (P := fun q : List Int × (Int × Int) => Bg (N + 216 + 2 * k + 1 + 1) fold q.2.1 q.1) (tot_ite (fun _ => ?_) fun _ => ?_) fun q hq => tot_some hq
      · refine tot_bind (take_ok hb (by omega) (by omega)) fun v hv => ?_
        exact tot_let (tot_some hv.2)
      · refine tot_bind (P := fun q : List Int × (Int × Int) => Bg (N + 216 + 2 * k + 1 + 1) fold q.2.1 q.1) (tot_ite (fun _ => ?_) fun _ => tot_some (hb.mono (by omega))) fun q hq => tot_some hq
        refine tot_bind (take_ok hb (by omega) (by omega)) fun v hv => ?_
        exact tot_some hv.2
    · have hm := Int.emod_nonneg q.2.2 (b := (x1.1.length : Int)) (by omega)
      have hm2 := Int.emod_lt_of_pos q.2.2 (b := (x1.1.length : Int)) (by omega)
      rw [modG_ok (by omega)]
      refine tot_let ?_
      obtain ⟨d, _, e⟩ := gx_ok (xs := x1.1) (i := q.2.2 % (x1.1.length : Int)) (by omega)
      rw [e]
      refine tot_let ?_
      rw [psh_ok (by omega)]
      exact tot_some ⟨hq.mono (by omega), by simp [hl]⟩
  · obtain ⟨hb, hl⟩ := hs
    exact tot_some ⟨by dsimp only; omega, hb.mono (by omega)⟩
theorem walk_far {l : List Int} {r : Nat} (hr : 1 ≤ r) (hl : l.length ≤ 2000) : m_walk l r = some (runF r [] l) := by
  have en : m_need_rule ("far" : Str) = some () := by
    unfold m_need_rule
    rw [if_neg (by decide +kernel)]
  have er : m_need_room (r : Int) = some () := by
    unfold m_need_room
    rw [if_neg (by rw [decide_eq_true_eq]; omega)]
  unfold m_walk
  rw [en, Option.bind_some, er, Option.bind_some]
  exact congrArg (fun z => Option.bind z fun x3 => some x3) (farW_ok hr hl)
theorem lc_faults {β : Type} {g : T3 → β} (ts : List T3) (h : ts.length ≤ 5000) : J.lcM (fun (_ : Unit) (x : T3) => if (decide (x.b = ("fault" : PySem.Str))) = true then some (some (g x), ()) else some (none, ())) ts () = some ((faultsOf ts).map g, ()) := by
  rw [lcM_fm (g := fun x => if (decide (x.b = ("fault" : PySem.Str))) = true then some (g x) else none) (fun x _ => by by_cases c : x.b = ("fault" : PySem.Str) <;> simp [c]) (by omega)]
  congr 2
  unfold faultsOf
  clear h
  induction ts with
  | nil => rfl
  | cons t ts ih =>
    rw [List.filterMap_cons, List.filter_cons]
    by_cases c : t.b = ("fault" : PySem.Str)
    · rw [if_pos (decide_eq_true c), if_pos (decide_eq_true c), List.map_cons, ← ih]
    · rw [if_neg (fun z => c (of_decide_eq_true z)), if_neg (fun z => c (of_decide_eq_true z)), ← ih]
theorem faults_of {l : List Int} {r : Int} {ts : List T3} (h : m_walk l r = some ts) (hl : ts.length ≤ 5000) : m_faults l r = some ((faultsOf ts).length : Int) := by
  unfold m_faults
  rw [h, Option.bind_some]
  have e : J.lcM m_faults_c0 ts () = _ := lc_faults (g := fun t => t.a) ts hl
  rw [e, Option.bind_some]
  dsimp only
  rw [List.length_map]
abbrev Dm := List (DU.P3 × Int)
section
variable {m : Dm} {k j : DU.P3} {x : Int}
theorem tget_cons {e : DU.P3 × Int} : DU.tget (e :: m) k = if e.1 = k then some e.2 else DU.tget m k := by
  unfold DU.tget
  rw [List.find?_cons]
  split
  · rename_i h
    rw [if_pos (of_decide_eq_true h)]
    rfl
  · rename_i h
    rw [if_neg (of_decide_eq_false h)]
theorem tget_app : ∀ {m : Dm}, (m.any fun q => decide (q.1 = k)) = false → DU.tget (m ++ [(k, x)]) j = if k = j then some x else DU.tget m j
  | [], _ => tget_cons
  | e :: m, h => by
    rw [List.any_cons, Bool.or_eq_false_iff] at h
    obtain ⟨h1, h2⟩ := h
    rw [List.cons_append, tget_cons, tget_app h2, tget_cons]
    have h1 := of_decide_eq_false h1
    by_cases d : e.1 = j
    · rw [if_pos d, if_neg fun z => h1 (d.trans z.symm), if_pos d]
    · rw [if_neg d, if_neg d]
theorem tget_map : ∀ {m : Dm}, DU.tget (m.map fun q => if q.1 = k then (q.1, x) else q) j = if k = j then (DU.tget m j).map fun _ => x else DU.tget m j
  | [] => by
    show DU.tget [] j = _
    split <;> rfl
  | e :: m => by
    rw [List.map_cons, tget_cons, tget_map (m := m), tget_cons]
    by_cases c : e.1 = k
    · rw [if_pos c]
      dsimp only
      by_cases d : k = j
      · rw [if_pos (c.trans d), if_pos d, if_pos (c.trans d)]
        rfl
      · rw [if_neg fun z => d (c.symm.trans z), if_neg d, if_neg d, if_neg fun z => d (c.symm.trans z)]
    · rw [if_neg c]
      by_cases d : e.1 = j
      · rw [if_pos d, if_neg fun z => c (d.trans z.symm), if_pos d]
      · rw [if_neg d, if_neg d]
theorem tget_any : ∀ {m : Dm}, (m.any fun q => decide (q.1 = k)) = true → ∃ y, DU.tget m k = some y
  | [], h => by cases h
  | e :: m, h => by
    rw [tget_cons]
    by_cases c : e.1 = k
    · exact ⟨_, if_pos c⟩
    · rw [if_neg c]
      rw [List.any_cons, Bool.or_eq_true] at h
      exact tget_any (h.resolve_left fun z => c (of_decide_eq_true z))
theorem tget_tput : DU.tget (DU.tput m k x) j = if k = j then some x else DU.tget m j := by
  unfold DU.tput
  split
  · rename_i h
    rw [tget_map]
    by_cases d : k = j
    · obtain ⟨y, e⟩ := tget_any h
      rw [if_pos d, if_pos d, ← d, e]
      rfl
    · rw [if_neg d, if_neg d]
  · rename_i h
    exact tget_app (Bool.not_eq_true _ ▸ h)
theorem tput_keys : (DU.tput m k x).map (·.1) = if k ∈ m.map (·.1) then m.map (·.1) else m.map (·.1) ++ [k] := by
  have ha : (m.any fun q => decide (q.1 = k)) = true ↔ k ∈ m.map (·.1) := by
    simp only [List.any_eq_true, decide_eq_true_eq, List.mem_map]
  unfold DU.tput
  by_cases c : (m.any fun q => decide (q.1 = k)) = true
  · rw [if_pos c, if_pos (ha.mp c), List.map_map]
    refine List.map_congr_left fun q _ => ?_
    show (if q.1 = k then (q.1, x) else q).1 = q.1
    split <;> rfl
  · rw [if_neg c, if_neg fun z => c (ha.mpr z), List.map_append]
    rfl
theorem tput_mem {q : DU.P3 × Int} (h : q ∈ DU.tput m k x) : q = (k, x) ∨ q ∈ m := by
  unfold DU.tput at h
  split at h
  · obtain ⟨u, hu, e⟩ := List.mem_map.mp h
    by_cases c : u.1 = k
    · rw [if_pos c] at e
      exact .inl (by rw [← e, c])
    · rw [if_neg c] at e
      exact .inr (e ▸ hu)
  · rcases List.mem_append.mp h with h | h
    · exact .inr h
    · exact .inl (List.mem_singleton.mp h)
theorem tget_mem : ∀ {m : Dm}, DU.tget m k = some x → (k, x) ∈ m
  | [], h => by cases h
  | e :: m, h => by
    rw [tget_cons] at h
    by_cases c : e.1 = k
    · rw [if_pos c] at h
      have h := Option.some.inj h
      subst c h
      exact List.mem_cons_self
    · rw [if_neg c] at h
      exact List.mem_cons_of_mem _ (tget_mem h)
theorem tget_key : ∀ {m : Dm}, k ∈ m.map (·.1) → ∃ v, DU.tget m k = some v
  | [], h => by cases h
  | e :: m, h => by
    rw [tget_cons]
    by_cases c : e.1 = k
    · exact ⟨_, if_pos c⟩
    · rw [if_neg c]
      rw [List.map_cons] at h
      exact tget_key ((List.mem_cons.mp h).resolve_left fun z => c z.symm)
end
def subs : List Int → List DU.P3
  | [] => [⟨[]⟩]
  | x :: P => subs P ++ (subs P).map fun q => ⟨x :: q.items⟩
theorem subs_len : ∀ P : List Int, (subs P).length = 2 ^ P.length
  | [] => rfl
  | x :: P => by
    show (subs P ++ _).length = _
    rw [List.length_append, List.length_map, subs_len P, List.length_cons, Nat.pow_succ]
    omega
theorem subs_mem (f : Int → Bool) : ∀ P : List Int, (⟨P.filter f⟩ : DU.P3) ∈ subs P
  | [] => by simp [subs]
  | x :: P => by
    show _ ∈ subs P ++ _
    rw [List.filter_cons]
    have ih := subs_mem f P
    split
    · exact List.mem_append.mpr (.inr (List.mem_map.mpr ⟨_, ih, rfl⟩))
    · exact List.mem_append.mpr (.inl ih)
theorem sub_lenU : ∀ {A B : List DU.P3}, A.Nodup → (∀ x ∈ A, x ∈ B) → A.length ≤ B.length
  | [], B, _, _ => Nat.zero_le _
  | x :: A, B, hn, h => by
    have hx := h x List.mem_cons_self
    have hn2 := List.nodup_cons.mp hn
    have := sub_lenU (B := B.erase x) hn2.2 fun y hy => (List.mem_erase_of_ne (fun (e : y = x) => hn2.1 (by rw [e] at hy; exact hy))).mpr (h y (List.mem_cons_of_mem _ hy))
    have e1 := List.length_erase_of_mem hx
    have e2 := List.length_pos_of_mem hx
    rw [List.length_cons]
    omega
/-- the key of a set of pages -/
def key (A : List Int) : DU.P3 := ⟨J.sortI A⟩
theorem key_mem {A : List Int} {x : Int} : x ∈ (key A).items ↔ x ∈ A := (sortI_perm A).mem_iff
theorem key_len {A : List Int} : (key A).items.length = A.length := (sortI_perm A).length_eq
theorem key_nod {A : List Int} (h : A.Nodup) : (key A).items.Nodup := (sortI_perm A).nodup_iff.mpr h
theorem key_same {A B : List Int} (ha : A.Nodup) (hb : B.Nodup) (h : ∀ x, x ∈ A ↔ x ∈ B) : key A = key B :=
  congrArg PySem.W.Tup.mk (sortI_eq ((sortI_perm A).trans ((List.perm_ext_iff_of_nodup ha hb).mpr h)) (sortI_srt A))
structure KOk (P : List Int) (r : Nat) (k : DU.P3) : Prop where
  nod : k.items.Nodup
  len : k.items.length ≤ r
  inP : ∀ x ∈ k.items, x ∈ P
  srt : k.items.Pairwise (· ≤ ·)
theorem kok_key {P : List Int} {r : Nat} {A : List Int} (h1 : A.Nodup) (h2 : A.length ≤ r) (h3 : ∀ x ∈ A, x ∈ P) : KOk P r (key A) := ⟨key_nod h1, by rw [key_len]; exact h2, fun x hx => h3 x (key_mem.mp hx), sortI_srt A⟩
theorem kok_self {P : List Int} {r : Nat} {k : DU.P3} (h : KOk P r k) : Gk09.key k.items = k := by
  have : J.sortI k.items = k.items := (sortI_eq (List.Perm.refl _) h.srt).symm
  unfold Gk09.key
  rw [this]
theorem kok_subs {P : List Int} {r : Nat} {k : DU.P3} (hP : P.Pairwise (· < ·)) (h : KOk P r k) : k ∈ subs P := by
  have hn : P.Nodup := hP.imp fun h => Int.ne_of_lt h
  have e : k = ⟨P.filter fun x => decide (x ∈ k.items)⟩ := by
    rw [← kok_self h]
    refine congrArg PySem.W.Tup.mk (sortI_eq ?_ ((hP.imp fun h => Int.le_of_lt h).sublist List.filter_sublist)).symm
    refine (List.perm_ext_iff_of_nodup (hn.sublist List.filter_sublist) h.nod).mpr fun x => ?_
    rw [List.mem_filter, decide_eq_true_eq]
    have e2 : (⟨J.sortI k.items⟩ : DU.P3) = k   := kok_self h
    constructor
    · intro z
      have := z.2
      first | exact this | exact (sortI_perm k.items).mem_iff.mp this
    · intro z
      exact ⟨h.inP x z, by first | exact z | exact (sortI_perm k.items).mem_iff.mpr z⟩
  rw [e]
  exact subs_mem _ P
structure Dok (P : List Int) (r : Nat) (R : DU.P3 → Int → Prop) (m : Dm) : Prop where
  nod : (m.map (·.1)).Nodup
  ok : ∀ q ∈ m, KOk P r q.1 ∧ R q.1 q.2
theorem Dok.few {P : List Int} {r : Nat} {R : DU.P3 → Int → Prop} {m : Dm} (hP : P.Pairwise (· < ·)) (h6 : P.length ≤ 6) (h : Dok P r R m) : m.length ≤ 64 := by
  have := sub_lenU (B := subs P) h.nod fun k hk => by
    obtain ⟨q, hq, e⟩ := List.mem_map.mp hk
    exact e ▸ kok_subs hP (h.ok q hq).1
  rw [List.length_map, subs_len] at this
  have : 2 ^ P.length ≤ 2 ^ 6 := Nat.pow_le_pow_right (by decide) h6
  omega
def Le (m : Dm) (k : DU.P3) (c : Int) : Prop := ∃ v, DU.tget m k = some v ∧ v ≤ c
def relax (m : Dm) (q : DU.P3 × Int) : Dm := DU.tput m q.1 (if (DU.tget m q.1).getD q.2 < q.2 then (DU.tget m q.1).getD q.2 else q.2)
theorem relax_le {m : Dm} {q : DU.P3 × Int} {k : DU.P3} {c : Int} (h : Le m k c) : Le (relax m q) k c := by
  obtain ⟨v, e, h⟩ := h
  unfold Le relax
  rw [tget_tput]
  by_cases d : q.1 = k
  · rw [if_pos d, d, e]
    refine ⟨_, rfl, ?_⟩
    dsimp only [Option.getD_some]
    split <;> omega
  · rw [if_neg d]
    exact ⟨v, e, h⟩
theorem relax_new {m : Dm} {q : DU.P3 × Int} : Le (relax m q) q.1 q.2 := by
  unfold Le relax
  rw [tget_tput, if_pos rfl]
  refine ⟨_, rfl, ?_⟩
  split <;> omega
theorem relax_ok {P : List Int} {r : Nat} {R : DU.P3 → Int → Prop} {m : Dm} {q : DU.P3 × Int} (h : Dok P r R m) (hq : KOk P r q.1 ∧ R q.1 q.2) : Dok P r R (relax m q) := by
  refine ⟨?_, fun u hu => ?_⟩
  · unfold relax
    rw [tput_keys]
    split
    · exact h.nod
    · rename_i c
      exact List.nodup_append.mpr ⟨h.nod, by simp, fun a ha b hb e => c (by
        rw [List.mem_singleton] at hb
        rw [← hb, ← e]
        exact ha)⟩
  · rcases tput_mem hu with e | hu
    · subst e
      refine ⟨hq.1, ?_⟩
      dsimp only
      cases g : DU.tget m q.1 with
      | none => rw [Option.getD_none, if_neg (by omega)]; exact hq.2
      | some v =>
        rw [Option.getD_some]
        split
        · exact (h.ok _ (tget_mem g)).2
        · exact hq.2
    · exact h.ok u hu
inductive Suc (r : Nat) : List Int → Int → List Int → Nat → Prop where
  | hit {A A' : List Int} {p : Int} : p ∈ A → A'.Nodup → (∀ x, x ∈ A' ↔ x ∈ A) → Suc r A p A' 0
  | add {A A' : List Int} {p : Int} : p ∉ A → A.length < r → A'.Nodup → (∀ x, x ∈ A' ↔ x = p ∨ x ∈ A) → Suc r A p A' 1
  | swap {A A' : List Int} {p g : Int} : p ∉ A → A.length = r → g ∈ A → A'.Nodup → (∀ x, x ∈ A' ↔ x = p ∨ (x ∈ A ∧ x ≠ g)) → Suc r A p A' 1
inductive Reach (r : Nat) : List Int → List Int → Nat → Prop where
  | nil : Reach r [] [] 0
  | step {l A A' : List Int} {p : Int} {c d : Nat} : Reach r l A c → Suc r A p A' d → Reach r (l ++ [p]) A' (c + d)
theorem reach_good {r : Nat} {l A : List Int} {c : Nat} (h : Reach r l A c) : ∀ (l2 : List Int) (ts2 : List T3), Good r A l2 ts2 → ∃ ts, Good r [] (l ++ l2) ts ∧ (faultsOf ts).length = c + (faultsOf ts2).length := by
  induction h with
  | nil => exact fun l2 ts2 g => ⟨ts2, g, by omega⟩
  | @step l A A' p c d h s ih =>
    intro l2 ts2 g
    rw [List.append_assoc]
    cases s with
    | hit h1 h2 h3 =>
      obtain ⟨ts, g2, e⟩ := ih (p :: l2) _ (.hit h1 h2 h3 g)
      exact ⟨ts, g2, by rw [e, faults_hit]; omega⟩
    | add h1 h2 h3 h4 =>
      obtain ⟨ts, g2, e⟩ := ih _ _ (.add h1 h2 h3 h4 g)
      exact ⟨ts, g2, by rw [e, faults_add]; omega⟩
    | swap h1 h2 h3 h4 h5 =>
      obtain ⟨ts, g2, e⟩ := ih _ _ (.swap h1 h2 h3 h4 h5 g)
      exact ⟨ts, g2, by rw [e, faults_add]; omega⟩
def Rc (r : Nat) (l : List Int) (k : DU.P3) (v : Int) : Prop := ∃ c : Nat, v = (c : Int) ∧ Reach r l k.items c
def sucs (r : Nat) (p : Int) (k : DU.P3) (c : Int) : List (DU.P3 × Int) :=
  if p ∈ k.items then [(k, c)] else if k.items.length < r then [(key (k.items ++ [p]), c + 1)] else k.items.map fun g => (key ((k.items.filter fun x => decide (x ≠ g)) ++ [p]), c + 1)
theorem nod_app {A : List Int} {p : Int} (h : A.Nodup) (c : p ∉ A) : (A ++ [p]).Nodup := List.nodup_append.mpr ⟨h, by simp, fun a ha b hb e => c (by
  rw [List.mem_singleton] at hb
  rw [← hb, ← e]
  exact ha)⟩
theorem rest_len {A : List Int} {g : Int} (h : g ∈ A) : (A.filter fun x => decide (x ≠ g)).length + 1 ≤ A.length := by
  have : (A.filter fun x => decide (x ≠ g)).length < A.length := by
    apply Nat.lt_of_le_of_ne (List.length_filter_le _ _)
    intro e
    have := List.length_filter_eq_length_iff.mp e g h
    simp at this
  omega
theorem sucs_ok {P : List Int} {r : Nat} {l : List Int} {p : Int} {k : DU.P3} {c : Int} (hr : 1 ≤ r) (hp : p ∈ P) (hk : KOk P r k) (hc : Rc r l k c) : ∀ q ∈ sucs r p k c, KOk P r q.1 ∧ Rc r (l ++ [p]) q.1 q.2 := by
  obtain ⟨n, rfl, hn⟩ := hc
  intro q hq
  unfold sucs at hq
  by_cases c1 : p ∈ k.items
  · rw [if_pos c1, List.mem_singleton] at hq
    subst hq
    exact ⟨hk, n, rfl, .step (d := 0) hn (.hit c1 hk.nod fun _ => Iff.rfl)⟩
  · rw [if_neg c1] at hq
    by_cases c2 : k.items.length < r
    · rw [if_pos c2, List.mem_singleton] at hq
      subst hq
      have h1 := nod_app hk.nod c1
      refine ⟨kok_key h1 (by simp; omega) fun x hx => (List.mem_append.mp hx).elim (hk.inP x) fun z => List.mem_singleton.mp z ▸ hp, n + 1, by simp, .step (d := 1) hn (.add c1 c2 (key_nod h1) fun x => ?_)⟩
      rw [key_mem, List.mem_append, List.mem_singleton, or_comm]
    · rw [if_neg c2] at hq
      obtain ⟨g, hg, rfl⟩ := List.mem_map.mp hq
      have h1 : ((k.items.filter fun x => decide (x ≠ g)) ++ [p]).Nodup := nod_app (hk.nod.sublist List.filter_sublist) fun z => c1 (List.mem_filter.mp z).1
      have h2 := rest_len hg
      have h3 := hk.len
      refine ⟨kok_key h1 (by simp only [List.length_append, List.length_singleton]; omega) fun x hx => (List.mem_append.mp hx).elim (fun z => hk.inP x (List.mem_filter.mp z).1) fun z => List.mem_singleton.mp z ▸ hp, n + 1, by simp, .step (d := 1) hn (.swap c1 (by omega) hg (key_nod h1) fun x => ?_)⟩
      rw [key_mem, List.mem_append, List.mem_singleton, or_comm, List.mem_filter, decide_eq_true_eq]
theorem sucs_all {r : Nat} {p : Int} {A A' : List Int} {d : Nat} {c : Int} (ha : A.Nodup) (hl : A.length ≤ r) (h : Suc r A p A' d) : (key A', c + (d : Int)) ∈ sucs r p (key A) c := by
  have kn := key_nod ha
  have kl : (key A).items.length = A.length := key_len
  unfold sucs
  cases h with
  | hit h1 h2 h3 =>
    rw [if_pos (key_mem.mpr h1), List.mem_singleton, key_same h2 ha h3]
    simp
  | add h1 h2 h3 h4 =>
    have n1 : p ∉ (key A).items := fun z => h1 (key_mem.mp z)
    rw [if_neg n1, if_pos (by omega), List.mem_singleton, key_same h3 (nod_app kn n1) fun x => by rw [h4, List.mem_append, List.mem_singleton, key_mem, or_comm]]
    rfl
  | swap h1 h2 h3 h4 h5 =>
    have n1 : p ∉ (key A).items := fun z => h1 (key_mem.mp z)
    rw [if_neg n1, if_neg (by omega)]
    rename_i g
    refine List.mem_map.mpr ⟨g, key_mem.mpr h3, ?_⟩
    rw [key_same h4 (nod_app (A := (key A).items.filter fun x => decide (x ≠ g)) (kn.sublist List.filter_sublist) fun z => n1 (List.mem_filter.mp z).1) fun x => by rw [h5, List.mem_append, List.mem_singleton, List.mem_filter, decide_eq_true_eq, key_mem, or_comm]]
    rfl
theorem bs {α : Type} (x : Option α) : (x.bind fun a => some a) = x := by cases x <;> rfl
theorem minG_I {xs : List Int} (h : xs ≠ []) : ∃ m ∈ xs, minG xs = some m ∧ ∀ y ∈ xs, m ≤ y := by
  cases xs with
  | nil => exact absurd rfl h
  | cons t ts =>
    refine ⟨PySem.W.minOf t ts, ?_⟩
    have key : PySem.W.minOf t ts ∈ t :: ts ∧ ∀ y ∈ t :: ts, PySem.W.minOf t ts ≤ y := by
      unfold PySem.W.minOf
      clear h
      induction ts generalizing t with
      | nil => exact ⟨List.mem_cons_self, fun y hy => by
          rw [List.mem_singleton] at hy
          subst hy
          exact Int.le_refl _⟩
      | cons y ys ih =>
        rw [List.foldl_cons]
        obtain ⟨i1, i2⟩ := ih (if PySem.W.DatumOrd.lt y t = true then y else t)
        have hd := i2 _ List.mem_cons_self
        generalize List.foldl (fun a y => if PySem.W.DatumOrd.lt y a = true then y else a) (if PySem.W.DatumOrd.lt y t = true then y else t) ys = m at *
        by_cases c : PySem.W.DatumOrd.lt y t = true
        · rw [if_pos c] at i1 i2 hd
          have c' : y < t := of_decide_eq_true c
          refine ⟨List.mem_cons_of_mem _ i1, fun z hz => ?_⟩
          rcases List.mem_cons.mp hz with e | hz
          · subst e
            omega
          · exact i2 z hz
        · rw [if_neg c] at i1 i2 hd
          have c' : ¬ y < t := fun z => c (decide_eq_true z)
          refine ⟨(List.mem_cons.mp i1).elim (fun e => e ▸ List.mem_cons_self) fun e => List.mem_cons_of_mem _ (List.mem_cons_of_mem _ e), fun z hz => ?_⟩
          rcases List.mem_cons.mp hz with e | hz
          · subst e
            exact hd
          · rcases List.mem_cons.mp hz with e | hz
            · subst e
              omega
            · exact i2 z (List.mem_cons_of_mem _ hz)
    exact ⟨key.1, rfl, key.2⟩
theorem b0_ok {m : Dm} {q : DU.P3 × Int} (h : m.length < 16777216) : m_law_fewest_b0 m q = some (relax m q) := by
  unfold m_law_fewest_b0 DU.tputG relax
  rw [Option.bind_some, if_pos h]
  rfl
theorem relax_all {P : List Int} {r : Nat} {R : DU.P3 → Int → Prop} (hP : P.Pairwise (· < ·)) (h6 : P.length ≤ 6) : ∀ (L : List (DU.P3 × Int)) (m : Dm), Dok P r R m → (∀ q ∈ L, KOk P r q.1 ∧ R q.1 q.2) → Tot (J.forM m_law_fewest_b0 L m) fun m' => Dok P r R m' ∧ (∀ q ∈ L, Le m' q.1 q.2) ∧ ∀ k c, Le m k c → Le m' k c
  | [], m, h, _ => ⟨m, rfl, h, (fun _ hq => nomatch hq), fun _ _ h => h⟩
  | q :: L, m, h, hL => by
    have := h.few hP h6
    show Tot ((m_law_fewest_b0 m q).bind (J.forM m_law_fewest_b0 L)) _
    rw [b0_ok (by omega), Option.bind_some]
    refine tot_imp (relax_all hP h6 L (relax m q) (relax_ok h (hL q List.mem_cons_self)) fun u hu => hL u (List.mem_cons_of_mem _ hu)) fun m' ⟨h1, h2, h3⟩ => ⟨h1, fun u hu => ?_, fun k c hk => h3 k c (relax_le hk)⟩
    rcases List.mem_cons.mp hu with e | hu
    · subst e
      exact h3 _ _ relax_new
    · exact h2 u hu
theorem c2_ok {g : Int} {xs : List Int} (h : xs.length ≤ 1000) : J.lcM (m_law_fewest_c2 g) xs () = some (xs.filter (fun x => decide (x ≠ g)), ()) := by
  rw [lcM_fm (g := fun x => if decide (x ≠ g) = true then some x else none) (fun x _ => by unfold m_law_fewest_c2; split <;> rfl) (by omega)]
  congr 2
  clear h
  induction xs with
  | nil => rfl
  | cons x xs ih =>
    rw [List.filterMap_cons, List.filter_cons, ih]
    by_cases c : decide (x ≠ g) = true
    · rw [if_pos c, if_pos c]
    · rw [if_neg c, if_neg c]
theorem cat_ok {t u : DU.P3} (h : t.items.length + u.items.length ≤ 1000) : J.catU t u = some ⟨t.items ++ u.items⟩ := if_pos h
theorem b3_ok {m : Dm} {p g : Int} {k : DU.P3} {c : Int} {s : List (DU.P3 × Int)} (hk : k.items.length ≤ 4) (hg : DU.tget m k = some c) (hs : s.length < 16777216) : m_law_fewest_b3 m p k s g = some (s ++ [(key ((k.items.filter fun x => decide (x ≠ g)) ++ [p]), c + 1)]) := by
  have hf := List.length_filter_le (fun x => decide (x ≠ g)) k.items
  unfold m_law_fewest_b3
  rw [c2_ok (by omega), Option.bind_some, Option.bind_some, cat_ok (by show (List.filter _ _).length + 1 ≤ 1000; omega), Option.bind_some, hg, Option.bind_some, psh_ok hs]
  rfl
theorem forM_map {α β : Type} {f : List β → α → Option (List β)} {g : α → β} : ∀ {xs : List α} {s : List β}, (∀ s x, x ∈ xs → s.length < 16777216 → f s x = some (s ++ [g x])) → s.length + xs.length ≤ 16777216 → J.forM f xs s = some (s ++ xs.map g)
  | [], s, _, _ => by simp [J.forM]
  | x :: xs, s, h, hl => by
    simp only [List.length_cons] at hl
    show (f s x).bind (J.forM f xs) = _
    rw [h s x List.mem_cons_self (by omega), Option.bind_some, forM_map (fun s y hy => h s y (List.mem_cons_of_mem _ hy)) (by simp; omega)]
    simp
theorem b5_ok {m s : Dm} {r : Nat} {p : Int} {k : DU.P3} {c : Int} (hk : k.items.length ≤ 4) (hg : DU.tget m k = some c) : m_law_fewest_b5 (r : Int) m p s k = J.forM m_law_fewest_b0 (sucs r p k c) s := by
  unfold m_law_fewest_b5 sucs
  by_cases c1 : p ∈ k.items
  · rw [if_pos (decide_eq_true c1), if_pos c1, hg, Option.bind_some, bs]
  · rw [if_neg (by simpa using c1), if_neg c1]
    by_cases c2 : k.items.length < r
    · rw [if_pos (decide_eq_true (by omega)), if_pos c2, cat_ok (by show _ + 1 ≤ 1000; omega), Option.bind_some, hg, Option.bind_some, bs]
      rfl
    · rw [if_neg (by rw [decide_eq_true_eq]; omega), if_neg c2, forM_map (g := fun g => (key ((k.items.filter fun x => decide (x ≠ g)) ++ [p]), c + 1)) (fun s x _ hs => b3_ok hk hg hs) (by simp; omega), Option.bind_some, bs]
      rfl
theorem tot_forP {ι α : Type} {f : ι → α → Option ι} (I : List α → ι → Prop) {all : List α} : ∀ (xs pre : List α) (s : ι), pre ++ xs = all → I pre s → (∀ pre s x post, pre ++ x :: post = all → I pre s → Tot (f s x) (I (pre ++ [x]))) → Tot (J.forM f xs s) (I all)
  | [], pre, s, e, h, _ => ⟨s, rfl, by rw [List.append_nil] at e; exact e ▸ h⟩
  | x :: xs, pre, s, e, h, hf => by
    show Tot ((f s x).bind _) _
    refine tot_bind (hf pre s x xs e h) fun s' h' => ?_
    exact tot_forP I xs (pre ++ [x]) s' (by rw [List.append_assoc]; exact e) h' hf
section
variable {P : List Int} {r : Nat} {m : Dm} {l : List Int} {p : Int}
theorem b6_ok (hr : 1 ≤ r) (h4 : r ≤ 4) (hP : P.Pairwise (· < ·)) (h6 : P.length ≤ 6) (hp : p ∈ P) (h : Dok P r (Rc r l) m) : Tot (m_law_fewest_b6 (r : Int) m p) fun m' => Dok P r (Rc r (l ++ [p])) m' ∧ ∀ k c, DU.tget m k = some c → ∀ q ∈ sucs r p k c, Le m' q.1 q.2 := by
  unfold m_law_fewest_b6
  rw [bs]
  refine tot_imp (tot_forP (fun pre s => Dok P r (Rc r (l ++ [p])) s ∧ ∀ k ∈ pre, ∀ c, DU.tget m k = some c → ∀ q ∈ sucs r p k c, Le s q.1 q.2) (all := m.map (·.1)) (m.map (·.1)) [] [] rfl ⟨⟨List.nodup_nil, fun q hq => nomatch hq⟩, fun k hk => nomatch hk⟩ fun pre s k post e hI => ?_) fun m' hI => ⟨hI.1, fun k c hg => hI.2 k (List.mem_map.mpr ⟨_, tget_mem hg, rfl⟩) c hg⟩
  obtain ⟨hD, hL⟩ := hI
  obtain ⟨c, hg⟩ := tget_key (m := m) (k := k) (by rw [← e]; exact List.mem_append.mpr (.inr List.mem_cons_self))
  have hk := h.ok _ (tget_mem hg)
  have hk4 := hk.1.len
  dsimp only at hk4
  rw [b5_ok (by omega) hg]
  refine tot_imp (relax_all hP h6 _ s hD (sucs_ok hr hp hk.1 hk.2)) fun s' ⟨h1, h2, h3⟩ => ⟨h1, fun j hj c' hc' q hq => ?_⟩
  rcases List.mem_append.mp hj with hj | hj
  · exact h3 _ _ (hL j hj c' hc' q hq)
  · rw [List.mem_singleton] at hj
    subst hj
    rw [hg] at hc'
    cases hc'
    exact h2 q hq
theorem far_suc {A : List Int} (hr : 1 ≤ r) (hn : A.Nodup) (hl : A.length ≤ r) (hb : A.length ≤ 16777216) : Suc r A p (nxtF r l A p) (if p ∈ A then 0 else 1) := by
  have h1 := nxtF_ok (later := l) (p := p) hr hn hl hb
  have mem := fun x => mem_nxtF (later := l) (p := p) (x := x) hn hr hb
  by_cases c : p ∈ A
  · rw [if_pos c]
    exact .hit c h1.1 (fun x => by rw [mem]; simp [c])
  · rw [if_neg c]
    by_cases f : A.length = r
    · have hne : A ≠ [] := fun e => by subst e; simp at f; omega
      exact .swap c f (farOf_ok (later := l) hne (by omega)).2.1 h1.1 (fun x => by rw [mem]; simp [c, f])
    · exact .add c (by omega) h1.1 (fun x => by rw [mem]; simp [c, f])
end
theorem run_ok {P : List Int} {r : Nat} (hr : 1 ≤ r) (h4 : r ≤ 4) (hP : P.Pairwise (· < ·)) (h6 : P.length ≤ 6) : ∀ (l2 l1 : List Int) (m : Dm) (A : List Int) (c : Nat), (∀ x ∈ l2, x ∈ P) → Dok P r (Rc r l1) m → A.Nodup → A.length ≤ r → Le m (key A) (c : Int) → Tot (J.forM (m_law_fewest_b6 (r : Int)) l2 m) fun m' => Dok P r (Rc r (l1 ++ l2)) m' ∧ ∃ A', Le m' (key A') ((c + fFn r A l2 : Nat) : Int)
  | [], l1, m, A, c, _, h, _, _, hL => ⟨m, rfl, by rw [List.append_nil]; exact h, A, hL⟩
  | p :: l2, l1, m, A, c, hi, h, hn, hl, ⟨v, hv, hvc⟩ => by
    show Tot ((m_law_fewest_b6 (r : Int) m p).bind _) _
    refine tot_bind (b6_ok hr h4 hP h6 (hi p List.mem_cons_self) h) fun m1 ⟨h1, h2⟩ => ?_
    have hs := far_suc (l := l2) (p := p) hr hn hl (by omega)
    have hx := nxtF_ok (later := l2) (p := p) hr hn hl (by omega)
    obtain ⟨u, hu, huc⟩ := h2 _ _ hv _ (sucs_all (c := v) hn hl hs)
    dsimp only at huc
    refine tot_imp (run_ok hr h4 hP h6 l2 (l1 ++ [p]) m1 (nxtF r l2 A p) (c + (if p ∈ A then 0 else 1)) (fun x hx => hi x (List.mem_cons_of_mem _ hx)) h1 hx.1 hx.2.1 ⟨u, hu, by omega⟩) fun m' ⟨k1, A', k2⟩ => ⟨by rw [List.append_assoc] at k1; exact k1, A', ?_⟩
    have : c + fFn r A (p :: l2) = c + (if p ∈ A then 0 else 1) + fFn r (nxtF r l2 A p) l2 := by
      show c + ((if p ∈ A then 0 else 1) + _) = _
      omega
    rw [this]
    exact k2
theorem few_law {P l : List Int} {r : Nat} (hr : 1 ≤ r) (h4 : r ≤ 4) (hP : P.Pairwise (· < ·)) (h6 : P.length ≤ 6) (hi : ∀ x ∈ l, x ∈ P) (hl : l.length ≤ 5000) : m_law_fewest l (r : Int) = some ((fFn r [] l : Nat) : Int) := by
  have k0 : key [] = ⟨[]⟩ := by simp [key, J.sortI]
  obtain ⟨m', e, h1, A', v, hv, hvc⟩ := run_ok hr h4 hP h6 l [] [(⟨[]⟩, 0)] [] 0 hi ⟨by simp, fun q hq => by
    rw [List.mem_singleton] at hq
    subst hq
    exact ⟨⟨List.nodup_nil, Nat.zero_le _, (fun x hx => nomatch hx), List.Pairwise.nil⟩, 0, rfl, Reach.nil⟩⟩ List.nodup_nil (Nat.zero_le _) ⟨0, by rw [k0, tget_cons, if_pos rfl], Int.le_refl _⟩
  unfold m_law_fewest
  rw [e, Option.bind_some, bs]
  have hv' : v ∈ m'.map (·.2) := List.mem_map.mpr ⟨_, tget_mem hv, rfl⟩
  obtain ⟨mv, hm, em, hle⟩ := minG_I (xs := m'.map (·.2)) (fun z => by rw [z] at hv'; cases hv')
  rw [em]
  obtain ⟨q, hq, rfl⟩ := List.mem_map.mp hm
  obtain ⟨_, c, hc, hR⟩ := h1.ok q hq
  obtain ⟨ts, g, ef⟩ := reach_good hR [] [] (.nil _)
  rw [List.nil_append, List.append_nil] at g
  have hf := far_fewest hr hl g
  rw [faults_runF, ef] at hf
  have h0 : (faultsOf ([] : List T3)).length = 0 := rfl
  have := hle v hv'
  congr 1
  omega
theorem few_ok {l : List Int} {r : Nat} (hr : 1 ≤ r) (hl : l.length ≤ 2000) : m_fewest l (r : Int) = some ((fFn r [] l : Nat) : Int) := by
  have fl := runF_len r [] l
  unfold m_fewest
  rw [faults_of (walk_far (l := l) hr hl) (by omega), faults_runF]
  rfl
theorem step_ok {N fold turn : Int} {great : List Int} {x2 : Int} {a : List Int} {x6 : Int} (h : Bg N fold turn great) (hN : N < 90000) : Tot (m_law_b1 (a, (fold, x2)) (great, turn) x6) fun o => ∃ s', o = .nx s' ∧ Bg (N + 1001) fold s'.2 s'.1 := by
  unfold m_law_b1
  refine tot_bind (trace_ok h hN) fun x11 h11 => ?_
  obtain ⟨l11, hb⟩ := h11
  have hsl := sset_len x11.1
  rw [setG_ok (by omega)]
  refine tot_let ?_
  have hP : ((sset x11.1).take 6).Pairwise (· < ·) := (sset_inc x11.1).sublist (List.take_sublist 6 _)
  have h6 : ((sset x11.1).take 6).length ≤ 6 := List.length_take_le 6 _
  refine tot_bind (tot_lcB (I := fun _ _ => True) (R := fun _ y => y ∈ (sset x11.1).take 6) trivial (by omega) fun k s x hx _ _ => ?_) fun x18 h18 => ?_
  · unfold m_law_c0
    have hm : x ∈ sset x11.1 := sset_mem.mpr hx
    have hi := List.idxOf_lt_length_iff.mpr hm
    rw [idxG_ok hm, Option.bind_some]
    have e : (((sset x11.1).idxOf x : Nat) : Int) % 6 = (((sset x11.1).idxOf x % 6 : Nat) : Int) := by omega
    have hj : (sset x11.1).idxOf x % 6 < (sset x11.1).length := Nat.lt_of_le_of_lt (Nat.mod_le _ _) hi
    rw [e, gx_nat (by omega), Int.toNat_natCast, List.getElem?_eq_getElem hj, Option.bind_some]
    refine tot_some ⟨⟨_, rfl, ?_⟩, trivial⟩
    refine List.mem_iff_getElem.mpr ⟨(sset x11.1).idxOf x % 6, by rw [List.length_take]; omega, ?_⟩
    rw [List.getElem_take]
  · obtain ⟨e18, h18, _⟩ := h18
    refine tot_bind (take_ok hb (by omega) (by omega)) fun x19 h19 => ?_
    obtain ⟨b19, hb⟩ := h19
    obtain ⟨r, hr⟩ : ∃ r : Nat, 1 + x19.1 = (r : Int) := ⟨(1 + x19.1).toNat, by omega⟩
    have hi : ∀ y ∈ x18.1, y ∈ (sset x11.1).take 6 := fun y hy => by
      obtain ⟨_, _, z⟩ := h18 y hy
      exact z
    rw [hr, few_ok (by omega) (by omega), Option.bind_some, few_law (P := (sset x11.1).take 6) (by omega) (by omega) hP h6 hi (by omega), Option.bind_some]
    have e1 : (decide (((fFn r [] x18.1 : Nat) : Int) ≠ ((fFn r [] x18.1 : Nat) : Int)) || decide (x18.1 ≠ x18.1)) = false := by simp
    rw [e1]
    show Tot ((some false).bind _) _
    rw [Option.bind_some, if_neg (by decide), Option.bind_some, if_neg (by simp)]
    exact tot_some ⟨_, rfl, hb.mono (by omega)⟩
theorem law_true (ns : List Int) (hl : ns.length ≤ 63) : m_law ns = some true := by
  have key : Tot (m_law ns) fun r => r = true := by
    unfold m_law
    refine tot_bind (deck_ok hl) fun x1 hb => ?_
    obtain ⟨n, hn⟩ : ∃ n : Nat, (if (ns.length : Int) < 2 then (ns.length : Int) else 2) = n := ⟨(if (ns.length : Int) < 2 then (ns.length : Int) else 2).toNat, by split <;> omega⟩
    have hn2 : n ≤ 2 := by split at hn <;> omega
    rw [hn, rngG_ok (by omega)]
    refine tot_let (tot_bind (tot_forL (I := fun k s => Bg (1010 * k) x1.2.1 s.2 s.1) (K := (2 + (n : Int)).toNat) (k := 0) (hb.mono (by omega)) (by rw [rng_len, Nat.zero_add]) fun k s x _ hk hI => ?_) fun o ho => ?_)
    · have q := step_ok (x2 := x1.2.2) (a := x1.1) (x6 := x) hI (by omega)
      exact tot_imp q fun o ⟨s', e, h⟩ => ⟨s', e, h.mono (by omega)⟩
    · obtain ⟨s', rfl, hI⟩ := ho
      exact tot_some (by simp)
  obtain ⟨r, e, h⟩ := key
  rw [e, h]
end Gk09
namespace Gk09
open PySem PySem.Spec PyProof.Rows L2
def h__law_deck : He.DefD := ⟨("_law_deck", none), "_law_deck", "_law_deck", defArgs s__law_deck, defBody s__law_deck, defScope s__law_deck, [], []⟩
def h__law_take : He.DefD := ⟨("_law_take", none), "_law_take", "_law_take", defArgs s__law_take, defBody s__law_take, defScope s__law_take, [], []⟩
def h__law_pool : He.DefD := ⟨("_law_pool", none), "_law_pool", "_law_pool", defArgs s__law_pool, defBody s__law_pool, defScope s__law_pool, [], []⟩
def h__law_trace : He.DefD := ⟨("_law_trace", none), "_law_trace", "_law_trace", defArgs s__law_trace, defBody s__law_trace, defScope s__law_trace, [], []⟩
def h_need_rule : He.DefD := ⟨("need_rule", none), "need_rule", "need_rule", defArgs s_need_rule, defBody s_need_rule, defScope s_need_rule, [], []⟩
def h_need_room : He.DefD := ⟨("need_room", none), "need_room", "need_room", defArgs s_need_room, defBody s_need_room, defScope s_need_room, [], []⟩
def h_farthest : He.DefD := ⟨("farthest", none), "farthest", "farthest", defArgs s_farthest, defBody s_farthest, defScope s_farthest, [], []⟩
def h_far_walk : He.DefD := ⟨("far_walk", none), "far_walk", "far_walk", defArgs s_far_walk, defBody s_far_walk, defScope s_far_walk, [], []⟩
def h_walk : He.DefD := ⟨("walk", none), "walk", "walk", defArgs s_walk, defBody s_walk, defScope s_walk, [], [("rule", He.Dv.str "last")]⟩
def h_faults : He.DefD := ⟨("faults", none), "faults", "faults", defArgs s_faults, defBody s_faults, defScope s_faults, [], [("rule", He.Dv.str "last")]⟩
def h_fewest : He.DefD := ⟨("fewest", none), "fewest", "fewest", defArgs s_fewest, defBody s_fewest, defScope s_fewest, [], []⟩
def h__law_fewest : He.DefD := ⟨("_law_fewest", none), "_law_fewest", "_law_fewest", defArgs s__law_fewest, defBody s__law_fewest, defScope s__law_fewest, [], []⟩
def h_law : He.DefD := ⟨("law", none), "law", "law", defArgs s_law, defBody s_law, defScope s_law, [], []⟩
def fn : List He.DefD := [h__law_deck, h__law_take, h__law_pool, h__law_trace, h_need_rule, h_need_room, h_farthest, h_far_walk, h_walk, h_faults, h_fewest, h__law_fewest, h_law]
def fa : List He.Fa := [.glo "_law_deck", .glo "_law_take", .glo "_law_pool", .glo "_law_trace", .glo "need_rule", .glo "need_room", .glo "farthest", .glo "far_walk", .glo "walk", .glo "faults", .glo "fewest", .glo "_law_fewest", .glo "law", .glo "RULES", .free "abs", .free "bool", .free "enumerate", .free "int", .free "isinstance", .free "len", .free "list", .free "max", .free "min", .free "range", .free "set", .free "sorted", .free "tuple"]
abbrev R : PySem.W.OpenRow := PySem.W.OpenLaw.row PySem.Challenge.rw_pagerooms_k09_fewest_faults
def ex (K : PySem.W.Frag) : Bool := He.tupB K "RULES" [.str "first", .str "last", .str "clock", .str "far"]
abbrev hk : PySem.W.Hook := He.hookX 4 fa fn [] [("farthest", none)] ex
def ob (s : PySem.W.SharedT) : He.AlX := He.obsX 4 fa fn [] [("farthest", none)] ex (HandSHeadRun.getT s)
theorem ob_eq (s : PySem.W.SharedT) : ob s = hk.obs s.abs := He.obsX_eq (HandSHeadRun.getT_eq s)
theorem run (w : World) : HandSHeadRun.RunEq R (PySem.W.view R.prog [23]) hk ob 6000 ["PageError", "NoRule", "NoRoom", "RULES", "need_rule", "need_room", "Line", "Ring", "Room", "farthest", "far_walk", "walk", "faults", "fewest", "_law_deck", "_law_take", "_law_pool", "_law_trace", "_law_fewest"] w := by
  intro os
  kernel_rfl
theorem facts {P : Program} {w : World} {K : PySem.W.Frag} {h : Heap} {mg : Str → Option Value} {f : Addr} (X : K.In h) (G : h.Ns mainGlobals mg) (hfa : mg ("law" : Str) = some (.ref f)) (c : He.SaysD fa fn K) (hx : ex K = true) :
    ∃ W : Wd K mg, (∀ (s : Shared) (v : Value), BindsTo s W.d_law ⟨[v], []⟩ [("script", v)]) ∧ ∀ base : Heap, K.In base → base.Ns mainGlobals mg → LamX.TabB base mg (He.cT K ("farthest", none)).1 (He.cT K ("farthest", none)).2 → FnOk P w K mg base CX0 8 f W.d_law ["script"] (F_law W).sp := by
  obtain ⟨fd0, FD0⟩ := c.def_ 0 (d := h__law_deck) rfl
  obtain ⟨fd1, FD1⟩ := c.def_ 1 (d := h__law_take) rfl
  obtain ⟨fd2, FD2⟩ := c.def_ 2 (d := h__law_pool) rfl
  obtain ⟨fd3, FD3⟩ := c.def_ 3 (d := h__law_trace) rfl
  obtain ⟨fd4, FD4⟩ := c.def_ 4 (d := h_need_rule) rfl
  obtain ⟨fd5, FD5⟩ := c.def_ 5 (d := h_need_room) rfl
  obtain ⟨fd6, FD6⟩ := c.def_ 6 (d := h_farthest) rfl
  obtain ⟨fd7, FD7⟩ := c.def_ 7 (d := h_far_walk) rfl
  obtain ⟨fd8, FD8⟩ := c.def_ 8 (d := h_walk) rfl
  obtain ⟨fd9, FD9⟩ := c.def_ 9 (d := h_faults) rfl
  obtain ⟨fd10, FD10⟩ := c.def_ 10 (d := h_fewest) rfl
  obtain ⟨fd11, FD11⟩ := c.def_ 11 (d := h__law_fewest) rfl
  obtain ⟨fd12, FD12⟩ := c.def_ 12 (d := h_law) rfl
  have e := hfa.symm.trans (He.glo_ok X G (c.fact 12 (f := .glo "law") rfl))
  cases e
  have b := FunD.bindsA (ps := ["script"]) FD12 fun _ _ _ _ _ _ us hl => match us, hl with | [_], _ => rfl
  let W0 : Wd K mg := ⟨He.ga K "RULES", He.glo_ok X G (c.fact 13 (f := .glo "RULES") rfl), fun H => He.tupB_ok (x := "RULES") (vs := [.str "first", .str "last", .str "clock", .str "far"]) (hx) H,
      _, fd0, FD0, He.glo_ok X G (c.fact 0 (f := .glo "_law_deck") rfl), FD0.bindsN (ps := ["script"]) (fun _ _ _ _ _ _ us hl => match us, hl with | [_], _ => rfl),
      _, fd1, FD1, He.glo_ok X G (c.fact 1 (f := .glo "_law_take") rfl), FD1.bindsN (ps := ["deck", "many"]) (fun _ _ _ _ _ _ us hl => match us, hl with | [_, _], _ => rfl),
      _, fd2, FD2, He.glo_ok X G (c.fact 2 (f := .glo "_law_pool") rfl), FD2.bindsN (ps := ["deck"]) (fun _ _ _ _ _ _ us hl => match us, hl with | [_], _ => rfl),
      _, fd3, FD3, He.glo_ok X G (c.fact 3 (f := .glo "_law_trace") rfl), FD3.bindsN (ps := ["deck", "most"]) (fun _ _ _ _ _ _ us hl => match us, hl with | [_, _], _ => rfl),
      _, fd4, FD4, He.glo_ok X G (c.fact 4 (f := .glo "need_rule") rfl), FD4.bindsN (ps := ["rule", "rules"]) (fun _ _ _ _ _ _ us hl => match us, hl with | [_, _], _ => rfl),
      _, fd5, FD5, He.glo_ok X G (c.fact 5 (f := .glo "need_room") rfl), FD5.bindsN (ps := ["room"]) (fun _ _ _ _ _ _ us hl => match us, hl with | [_], _ => rfl),
      _, fd6, FD6, He.glo_ok X G (c.fact 6 (f := .glo "farthest") rfl), FD6.bindsN (ps := ["pages", "later"]) (fun _ _ _ _ _ _ us hl => match us, hl with | [_, _], _ => rfl),
      _, fd7, FD7, He.glo_ok X G (c.fact 7 (f := .glo "far_walk") rfl), FD7.bindsN (ps := ["trace", "room"]) (fun _ _ _ _ _ _ us hl => match us, hl with | [_, _], _ => rfl),
      _, fd8, FD8, He.glo_ok X G (c.fact 8 (f := .glo "walk") rfl),
      _, fd9, FD9, He.glo_ok X G (c.fact 9 (f := .glo "faults") rfl),
      _, fd10, FD10, He.glo_ok X G (c.fact 10 (f := .glo "fewest") rfl), FD10.bindsN (ps := ["trace", "room"]) (fun _ _ _ _ _ _ us hl => match us, hl with | [_, _], _ => rfl),
      _, fd11, FD11, He.glo_ok X G (c.fact 11 (f := .glo "_law_fewest") rfl), FD11.bindsN (ps := ["line", "size"]) (fun _ _ _ _ _ _ us hl => match us, hl with | [_, _], _ => rfl),
      _, fd12, FD12, He.glo_ok X G (c.fact 12 (f := .glo "law") rfl), FD12.bindsN (ps := ["script"]) (fun _ _ _ _ _ _ us hl => match us, hl with | [_], _ => rfl),
      J.code_eq (p := ("farthest", none)) FD6,
      He.free_ok X G (c.fact 14 (f := .free "abs") rfl),
      He.free_ok X G (c.fact 15 (f := .free "bool") rfl),
      He.free_ok X G (c.fact 16 (f := .free "enumerate") rfl),
      He.free_ok X G (c.fact 17 (f := .free "int") rfl),
      He.free_ok X G (c.fact 18 (f := .free "isinstance") rfl),
      He.free_ok X G (c.fact 19 (f := .free "len") rfl),
      He.free_ok X G (c.fact 20 (f := .free "list") rfl),
      He.free_ok X G (c.fact 21 (f := .free "max") rfl),
      He.free_ok X G (c.fact 22 (f := .free "min") rfl),
      He.free_ok X G (c.fact 23 (f := .free "range") rfl),
      He.free_ok X G (c.fact 24 (f := .free "set") rfl),
      He.free_ok X G (c.fact 25 (f := .free "sorted") rfl),
      He.free_ok X G (c.fact 26 (f := .free "tuple") rfl)⟩
  exact ⟨W0, fun s v => b s [v] rfl, fun base _ _ tb0 => haveI : Tbs K mg base := ⟨tb0⟩; ok_law (P := P) (w := w) (base := base) W0⟩
end Gk09
open PySem PySem.W PySem.Calls PyProof.Rows
theorem PySem.Challenge.cw_pagerooms_k09_fewest_faults_holds : PySem.Challenge.rw_pagerooms_k09_fewest_faults.Holds := by
  w_on; o_law
  refine HandSHeadRun.head_any (r := OpenLaw.row PySem.Challenge.rw_pagerooms_k09_fewest_faults) (q := view (OpenLaw.row PySem.Challenge.rw_pagerooms_k09_fewest_faults).prog [23]) (H := Gk09.hk) (ob := Gk09.ob) (M := 6000) (loose := ["PageError", "NoRule", "NoRoom", "RULES", "need_rule", "need_room", "Line", "Ring", "Room", "farthest", "far_walk", "walk", "faults", "fewest", "_law_deck", "_law_take", "_law_pool", "_law_trace", "_law_fewest"]) (d := HandSHeadRun.topDef (OpenLaw.row PySem.Challenge.rw_pagerooms_k09_fewest_faults).prog 23) (kwd := []) Gk09.ob_eq
    (by kernel_rfl) (fun s => by kernel_rfl) Gk09.run (by kernel_rfl) (by kernel_rfl) (by kernel_rfl) (by rfl) (by first | assumption | decide +kernel) (by decide +kernel) ⟨rfl, rfl, rfl, rfl, rfl, by decide +kernel⟩ ?hw ?hc
  case hw => w_witness2
  case hc =>
    refine LamX.walk_ofTsE (l := PySem.Challenge.rw_pagerooms_k09_fewest_faults) (n := 63) (k := 8) (x := "script") (CX := fun _ => L2.CX0) rfl (by decide) (by kernel_rfl) ⟨rfl, by decide, by decide⟩ ?F (fun _ _ _ _ _ z => z)
    intro w mg fa h Y G hmg0
    obtain ⟨K, KX, c⟩ := Y
    have hmg : mg ("law" : PySem.Str) = some (.ref fa) := by
      have e : (HandSHeadRun.topDef (OpenLaw.row PySem.Challenge.rw_pagerooms_k09_fewest_faults).prog 23).name = ("law" : PySem.Str) := by kernel_rfl
      rw [← e]
      exact hmg0
    obtain ⟨W, hb, hF⟩ := Gk09.facts (P := (PySem.Challenge.rw_pagerooms_k09_fewest_faults).prog) (w := w) KX G hmg c.t.d c.more
    have inT : ∀ p ∈ [He.cT K ("farthest", none)], ∃ q ∈ ([("farthest", none)] : List He.Defn), p = He.cT K q := fun p hp => by
      simp only [List.mem_singleton] at hp
      exact ⟨_, List.mem_singleton.mpr rfl, hp⟩
    refine ⟨K, KX, W.d_law, [He.cT K ("farthest", none)], (Gk09.F_law W).sp, fun p hp => ?_, fun p hp => ?_, fun p hp => ?_, hb, fun H a ns hl _ hT hS => ?_, fun base h1 h2 h3 => hF base h1 h2 (h3 _ (List.mem_singleton.mpr rfl))⟩
    · obtain ⟨q, hq, rfl⟩ := inT p hp
      exact c.empty q hq
    · obtain ⟨q, hq, rfl⟩ := inT p hp
      exact c.out q hq
    · obtain ⟨q, hq, rfl⟩ := inT p hp
      exact PySem.W.codeHd_of_K KX (c.hd q hq)
    · have hP := hT _ (List.mem_singleton.mpr rfl)
      exact ⟨⟨a, ns, true⟩, ⟨L2.del H (He.cT K ("farthest", none)).2, L2.del H (He.cT K ("farthest", none)).2⟩, Gk09.law_true ns hl, J.sqL_del hS hP, J.sta0T hP, fun v H' h => J.out_true h⟩
