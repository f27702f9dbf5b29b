import PyProof.Rows.All
import PySem.Challenge.RW_pagerooms_k31_whole_own_faults
import Wide.All
import OpenK.AllK
import Wide.FinOn
import HandS.ForMost
import KE.Datum
import HandS.Wide
import HandS.Walk
import HandS.SetFor
import KE.DatumIndex
import KE.DatumMore
import KE.DatumOrd
import KE.SortData
import HandS.Defaults
import HandS.Style
import HandS.Zip
import HandS.SortOrd
import HandS.SortInts
import HandS.IsInst
import HandS.WordsDict
import HandS.SortRule
import HandS.SortKw
import HandS.Conv
import HandS.Iter
import HandS.MakeKwOnly
import HandS.HeadHook4
import KE.GoesEnum
import HandS.Exc
import HandS.ExcOwn
import HandS.ExcInit
import HandS.ExcField
import HandS.ExcCtx
import KE.KExcIs
import KE.KIsAll
import HandS.Lambda
import KE.KMinKey
import HandS.HeadWalk
import KE.DatumMoreOrd
import KE.GoesEnumKw
import HandS.DictComp
import HandS.NoneIn
import HandS.TupLen
import HandS.DictTup
import PyProof.DictMoreH
import PyProof.ReprRoads
import HandS.MakeKw
import HandS.TryMany
import HandS.HotCalls
import HandS.Head0
import HandS.Head1
import HandS.Head2
import HandS.HeadEnd
import HandS.HeadHook1
import HandS.HeadHook2
set_option Elab.async false
set_option linter.all false
set_option maxRecDepth 100000
set_option maxHeartbeats 0
namespace J
open PySem L2
open PySem.W (Datum)
mutual
inductive Slot : Type 1 where
  | any
  | v (x : V)
  | val {α : Type} [DecidableEq α] [Datum α] (x : α)
  | own (c : Cel)
  | ownA (q : Addr) (c : Cel)
  | say (φ : (Addr → Option HO) → V → Prop)
  | otup (ss : List Slot)
inductive Cel : Type 1 where
  | lst (ss : List Slot)
  | ins (C : Addr) (fs : List (Str × Slot))
  | dk (ks : List Key) (ss : List Slot)
  | fdk (o : Obj) (gs : List (Key × V)) (ss : List Slot)
  | gone
  | say (ψ : (Addr → Option HO) → HO → Prop)
  | ex (f : List Addr → Cel)
end
abbrev Ex (H H' : Hp) : Prop := ∀ a o, H a = some o → H' a = some o
theorem Ex.refl (H : Hp) : Ex H H := fun _ _ h => h
/-- what is said of a value for good -/
def Mono (φ : Hp → V → Prop) : Prop := ∀ G G' u, Ex G G' → φ G u → φ G' u
def MonoC (ψ : Hp → HO → Prop) : Prop := ∀ G G' o, Ex G G' → ψ G o → ψ G' o
theorem Ex.trans {H H1 H2 : Hp} (a : Ex H H1) (b : Ex H1 H2) : Ex H H2 := fun x o h => b x o (a x o h)
mutual
inductive Dq (H : Hp) : V → PyData → Prop where
  | non : Dq H .non .none
  | bl (b : Bool) : Dq H (.bl b) (.bool b)
  | int (i : Int) : Dq H (.int i) (.int i)
  | str (x : Str) : Dq H (.str x) (.str x)
  | lst {a : Addr} {xs : List V} {ds : List PyData} : H a = some (.lst xs) → DqAll H xs ds → Dq H (.ref a) (.list ds)
  | tup {a : Addr} {xs : List V} {ds : List PyData} : H a = some (.tup xs) → DqAll H xs ds → Dq H (.ref a) (.tuple ds)
inductive DqAll (H : Hp) : List V → List PyData → Prop where
  | nil : DqAll H [] []
  | cons {v : V} {vs : List V} {d : PyData} {ds : List PyData} : Dq H v d → DqAll H vs ds → DqAll H (v :: vs) (d :: ds)
end
mutual
theorem dq_mono {H H' : Hp} (e : Ex H H') : ∀ {d : PyData} {v : V}, Dq H v d → Dq H' v d
  | _, _, .non => .non
  | _, _, .bl b => .bl b
  | _, _, .int i => .int i
  | _, _, .str x => .str x
  | _, _, .lst h ha => .lst (e _ _ h) (dqAll_mono e ha)
  | _, _, .tup h ha => .tup (e _ _ h) (dqAll_mono e ha)
theorem dqAll_mono {H H' : Hp} (e : Ex H H') : ∀ {ds : List PyData} {vs : List V}, DqAll H vs ds → DqAll H' vs ds
  | _, _, .nil => .nil
  | _, _, .cons h1 h2 => .cons (dq_mono e h1) (dqAll_mono e h2)
end
mutual
theorem dq_dp {K : PySem.W.Frag} {H : Hp} : ∀ {d : PyData} {v : V}, Dq H v d → Dp K H v d
  | _, _, .non => .non
  | _, _, .bl b => .bl b
  | _, _, .int i => .int i
  | _, _, .str x => .str x
  | _, _, .lst h ha => .lst (.of h) (dqAll_dp ha)
  | _, _, .tup h ha => .tup (.of h) (dqAll_dp ha)
theorem dqAll_dp {K : PySem.W.Frag} {H : Hp} : ∀ {ds : List PyData} {vs : List V}, DqAll H vs ds → DpAll K H vs ds
  | _, _, .nil => .nil
  | _, _, .cons h1 h2 => .cons (dq_dp h1) (dqAll_dp h2)
end
/-- no tuple -/
def NT (o : HO) : Prop := ∀ xs, o ≠ .tup xs
mutual
inductive SlI (G H : Hp) : Slot → V → List Addr → Prop where
  | any {u} : SlI G H .any u []
  | v {u} : SlI G H (.v u) u []
  | val {α : Type} [DecidableEq α] [Datum α] {x : α} {u : V} : Dq G u (Datum.toD x) → SlI G H (.val x) u []
  | own {c : Cel} {p : Addr} {o : HO} {as : List Addr} : H p = some o → CeI G H c o as → SlI G H (.own c) (.ref p) (p :: as)
  | ownA {c : Cel} {q : Addr} {o : HO} {as : List Addr} : H q = some o → CeI G H c o as → SlI G H (.ownA q c) (.ref q) (q :: as)
  | say {φ : Hp → V → Prop} {u : V} : Mono φ → φ G u → SlI G H (.say φ) u []
  | otup {ss : List Slot} {vs : List V} {t : Addr} {as : List Addr} : G t = some (.tup vs) → SsI G H ss vs as → SlI G H (.otup ss) (.ref t) as
inductive CeI (G H : Hp) : Cel → HO → List Addr → Prop where
  | lst {ss : List Slot} {vs : List V} {as : List Addr} : SsI G H ss vs as → CeI G H (.lst ss) (.lst vs) as
  | ins {C dx : Addr} {fs : List (Str × Slot)} {gs : List (Str × V)} {as : List Addr} : fs.map (·.1) = gs.map (·.1) → SsI G H (fs.map (·.2)) (gs.map (·.2)) as → CeI G H (.ins C fs) (.ins C dx gs) as
  | dk {ks : List Key} {ss : List Slot} {gs : List (Key × V)} {as : List Addr} : ks = gs.map (·.1) → SsI G H ss (gs.map (·.2)) as → CeI G H (.dk ks ss) (.dK gs) as
  | fdk {ob : Obj} {ss : List Slot} {gs : List (Key × V)} {as : List Addr} : SsI G H ss (gs.map (·.2)) as → CeI G H (.fdk ob gs ss) (.frz ob (.dK gs)) as
  | say {ψ : Hp → HO → Prop} {o : HO} : MonoC ψ → ψ G o → NT o → CeI G H (.say ψ) o []
  | ex {f : List Addr → Cel} {qs : List Addr} {o : HO} {as : List Addr} : CeI G H (f qs) o as → CeI G H (.ex f) o as
inductive SsI (G H : Hp) : List Slot → List V → List Addr → Prop where
  | nil : SsI G H [] [] []
  | cons {s : Slot} {u : V} {as : List Addr} {ss : List Slot} {vs : List V} {bs : List Addr} : SlI G H s u as → SsI G H ss vs bs → SsI G H (s :: ss) (u :: vs) (as ++ bs)
end
section
variable {G G' H H' : Hp}
mutual
theorem SlI.mono : ∀ {s : Slot} {u : V} {as : List Addr}, SlI G H s u as → Ex G G' → (∀ a ∈ as, H' a = H a) → SlI G' H' s u as
  | _, _, _, .any, _, _ => .any
  | _, _, _, .v, _, _ => .v
  | _, _, _, @SlI.val _ _ α i1 i2 x u h, e, _ => @SlI.val _ _ α i1 i2 x u (dq_mono e h)
  | _, _, _, .say m h, e, _ => .say m (m _ _ _ e h)
  | _, _, _, .otup ht h, e, f => .otup (e _ _ ht) (SsI.mono h e f)
  | _, _, _, .own hp hc, e, f => .own ((f _ List.mem_cons_self).trans hp) (CeI.mono hc e fun a ha => f a (List.mem_cons_of_mem _ ha))
  | _, _, _, .ownA hp hc, e, f => .ownA ((f _ List.mem_cons_self).trans hp) (CeI.mono hc e fun a ha => f a (List.mem_cons_of_mem _ ha))
theorem CeI.mono : ∀ {c : Cel} {o : HO} {as : List Addr}, CeI G H c o as → Ex G G' → (∀ a ∈ as, H' a = H a) → CeI G' H' c o as
  | _, _, _, .lst h, e, f => .lst (SsI.mono h e f)
  | _, _, _, .ins h1 h2, e, f => .ins h1 (SsI.mono h2 e f)
  | _, _, _, .dk h1 h2, e, f => .dk h1 (SsI.mono h2 e f)
  | _, _, _, .fdk h2, e, f => .fdk (SsI.mono h2 e f)
  | _, _, _, .say m h n, e, _ => .say m (m _ _ _ e h) n
  | _, _, _, .ex h, e, f => .ex (CeI.mono h e f)
theorem SsI.mono : ∀ {ss : List Slot} {vs : List V} {as : List Addr}, SsI G H ss vs as → Ex G G' → (∀ a ∈ as, H' a = H a) → SsI G' H' ss vs as
  | _, _, _, .nil, _, _ => .nil
  | _, _, _, .cons h1 h2, e, f => .cons (SlI.mono h1 e fun a ha => f a (List.mem_append_left _ ha)) (SsI.mono h2 e fun a ha => f a (List.mem_append_right _ ha))
end
theorem SsI.len : ∀ {ss : List Slot} {vs : List V} {as : List Addr}, SsI G H ss vs as → ss.length = vs.length
  | _, _, _, .nil => rfl
  | _, _, _, .cons _ h => congrArg Nat.succ (SsI.len h)
theorem SsI.app : ∀ {ss : List Slot} {vs : List V} {as : List Addr} {tt : List Slot} {us : List V} {bs : List Addr}, SsI G H ss vs as → SsI G H tt us bs → SsI G H (ss ++ tt) (vs ++ us) (as ++ bs)
  | _, _, _, _, _, _, .nil, h => h
  | _, _, _, _, _, _, .cons (as := as) (bs := bs) h1 h2, h => by
    rw [List.append_assoc]
    exact .cons h1 (SsI.app h2 h)
theorem SsI.split : ∀ {ss : List Slot} {vs : List V} {tt : List Slot} {us : List V} {cs : List Addr}, ss.length = vs.length → SsI G H (ss ++ tt) (vs ++ us) cs → ∃ as bs, cs = as ++ bs ∧ SsI G H ss vs as ∧ SsI G H tt us bs
  | [], [], _, _, cs, _, h => ⟨[], cs, rfl, .nil, h⟩
  | [], _ :: _, _, _, _, e, _ => nomatch e
  | _ :: _, [], _, _, _, e, _ => nomatch e
  | s :: ss, v :: vs, tt, us, _, e, .cons (as := a1) h1 h2 => by
    obtain ⟨as, bs, rfl, h3, h4⟩ := SsI.split (Nat.succ.inj e) h2
    exact ⟨a1 ++ as, bs, (List.append_assoc ..).symm, .cons h1 h3, h4⟩
inductive CsI (G H : Hp) : List (Addr × Cel) → List Addr → Prop where
  | nil : CsI G H [] []
  | gone {p : Addr} {cs : List (Addr × Cel)} {bs : List Addr} : CsI G H cs bs → CsI G H ((p, .gone) :: cs) bs
  | cons {p : Addr} {c : Cel} {o : HO} {as : List Addr} {cs : List (Addr × Cel)} {bs : List Addr} : H p = some o → CeI G H c o as → CsI G H cs bs → CsI G H ((p, c) :: cs) (p :: (as ++ bs))
theorem CsI.mono : ∀ {cs : List (Addr × Cel)} {bs : List Addr}, CsI G H cs bs → Ex G G' → (∀ a ∈ bs, H' a = H a) → CsI G' H' cs bs
  | _, _, .nil, _, _ => .nil
  | _, _, .gone h, e, f => .gone (CsI.mono h e f)
  | _, _, .cons hp hc h, e, f => .cons ((f _ List.mem_cons_self).trans hp) (hc.mono e fun a ha => f a (List.mem_cons_of_mem _ (List.mem_append_left _ ha))) (CsI.mono h e fun a ha => f a (List.mem_cons_of_mem _ (List.mem_append_right _ ha)))
theorem CsI.app : ∀ {cs ds : List (Addr × Cel)} {as bs : List Addr}, CsI G H cs as → CsI G H ds bs → CsI G H (cs ++ ds) (as ++ bs)
  | _, _, _, _, .nil, h => h
  | _, _, _, _, .gone h1, h => .gone (CsI.app h1 h)
  | _, _, _, _, .cons hp hc h1, h => by
    rw [List.cons_append, List.cons_append, List.append_assoc]
    exact .cons hp hc (CsI.app h1 h)
/-- the k-th cell, and the rest, that may be put together with another one -/
theorem CsI.at : ∀ {cs : List (Addr × Cel)} {bs : List Addr} (k : Nat) {p : Addr} {c : Cel}, CsI G H cs bs → cs[k]? = some (p, c) → c ≠ .gone →
    ∃ l o m r, bs = l ++ (p :: m) ++ r ∧ H p = some o ∧ CeI G H c o m ∧
      ∀ {G' H' : Hp}, Ex G G' → (∀ a ∈ l ++ r, H' a = H a) →
        (∀ {q : Addr} {c' : Cel} {o' : HO} {m' : List Addr}, H' q = some o' → CeI G' H' c' o' m' → CsI G' H' (cs.set k (q, c')) (l ++ (q :: m') ++ r)) ∧ ∀ q, CsI G' H' (cs.set k (q, .gone)) (l ++ r)
  | [], _, _, _, _, _, e, _ => by simp at e
  | _ :: cs, bs, 0, p, c, h, e, hg => by
    have e1 := Option.some.inj (show some _ = some (p, c) from e)
    cases h with
    | gone h => cases e1; exact absurd rfl hg
    | @cons p' c' o as _ bs hp hc h =>
      cases e1
      refine ⟨[], o, as, bs, rfl, hp, hc, fun eg f => ⟨fun hq hc' => ?_, fun q => ?_⟩⟩
      · exact .cons hq hc' (h.mono eg f)
      · exact .gone (h.mono eg f)
  | (p0, c0) :: cs, bs, k + 1, p, c, h, e, hg => by
    have e1 : cs[k]? = some (p, c) := e
    cases h with
    | gone h =>
      obtain ⟨l, o, m, r, rfl, hp, hc, f⟩ := CsI.at k h e1 hg
      exact ⟨l, o, m, r, rfl, hp, hc, fun eg g => ⟨fun hq hc' => .gone ((f eg g).1 hq hc'), fun q => .gone ((f eg g).2 q)⟩⟩
    | @cons _ _ o1 as _ bs hp1 hc1 h =>
      obtain ⟨l, o, m, r, rfl, hp, hc, f⟩ := CsI.at k h e1 hg
      refine ⟨p0 :: (as ++ l), o, m, r, ?_, hp, hc, fun {G' H'} eg g => ?_⟩
      · simp only [List.cons_append, List.append_assoc]
      · have g1 : ∀ a ∈ p0 :: as, H' a = H a := fun a ha => g a (by
          rcases List.mem_cons.mp ha with rfl | ha
          · exact List.mem_append_left _ List.mem_cons_self
          · exact List.mem_append_left _ (List.mem_cons_of_mem _ (List.mem_append_left _ ha)))
        have g2 : ∀ a ∈ l ++ r, H' a = H a := fun a ha => g a (by
          rcases List.mem_append.mp ha with ha | ha
          · exact List.mem_append_left _ (List.mem_cons_of_mem _ (List.mem_append_right _ ha))
          · exact List.mem_append_right _ ha)
        have k1 : H' p0 = some o1 := (g1 p0 List.mem_cons_self).trans hp1
        have k2 := hc1.mono eg fun a ha => g1 a (List.mem_cons_of_mem _ ha)
        refine ⟨fun {q c' o' m'} hq hc' => ?_, fun q => ?_⟩
        · have := CsI.cons k1 k2 ((f eg g2).1 hq hc')
          simpa only [List.cons_append, List.append_assoc, List.set_cons_succ] using this
        · have := CsI.cons k1 k2 ((f eg g2).2 q)
          simpa only [List.cons_append, List.append_assoc, List.set_cons_succ] using this
def SlOk (G : Hp) : Slot → Option V → Prop
  | .any, _ => True
  | .v x, o => o = some x
  | @Slot.val _ _ _ x, o => ∃ u, o = some u ∧ Dq G u (Datum.toD x)
  | .own _, _ => False
  | .ownA _ _, _ => False
  | .otup _, _ => False
  | .say φ, o => ∃ u, o = some u ∧ Mono φ ∧ φ G u
theorem SlOk.mono {s : Slot} {o : Option V} (h : SlOk G s o) (e : Ex G G') : SlOk G' s o := by
  cases s with
  | any => trivial
  | v x => exact h
  | val x => obtain ⟨u, h1, h2⟩ := h; exact ⟨u, h1, dq_mono e h2⟩
  | own c => exact h
  | ownA _ c => exact h
  | otup _ => exact h
  | say φ => obtain ⟨u, h1, m, h2⟩ := h; exact ⟨u, h1, m, m _ _ _ e h2⟩
def SgI (G : Hp) (sl : List Slot) (σ : St) : Prop := sl.length = σ.length ∧ ∀ (i : Nat) s, sl[i]? = some s → ∃ o, σ[i]? = some o ∧ SlOk G s o
theorem SgI.mono {sl : List Slot} {σ : St} (h : SgI G sl σ) (e : Ex G G') : SgI G' sl σ := ⟨h.1, fun i s hs => let ⟨o, h1, h2⟩ := h.2 i s hs; ⟨o, h1, h2.mono e⟩⟩
theorem SgI.set {sl : List Slot} {σ : St} (h : SgI G sl σ) (i : Nat) {s : Slot} {u : V} (hs : SlOk G s (some u)) : SgI G (sl.set i s) (σ.set i (some u)) := by
  refine ⟨by rw [List.length_set, List.length_set, h.1], fun j s' hj => ?_⟩
  by_cases e : i = j
  · subst e
    have hl : i < sl.length := by
      have := (List.getElem?_eq_some_iff.mp hj).1
      rwa [List.length_set] at this
    rw [List.getElem?_set_self hl] at hj
    cases hj
    exact ⟨some u, by rw [List.getElem?_set_self (h.1 ▸ hl)], hs⟩
  · rw [List.getElem?_set_ne e] at hj
    obtain ⟨o, h1, h2⟩ := h.2 j s' hj
    exact ⟨o, by rw [List.getElem?_set_ne e]; exact h1, h2⟩
end
/-- what holds ahead of a def: G what is said for good, F what is to stay -/
structure Base where
  G : Hp
  F : Hp
structure Stt : Type 1 where
  sl : List Slot
  cs : List (Addr × Cel)
structure St0 (B : Base) (S : Stt) (T : List Slot) (σ : St) (tv : List V) (H G : Hp) (as bs : List Addr) : Prop where
  tmp : SsI G H T tv as
  cel : CsI G H S.cs bs
  slo : SgI G S.sl σ
  nod : (as ++ bs).Nodup
  fre : ∀ a ∈ as ++ bs, G a = none ∧ B.F a = none
  gro : Ex B.G G
  new : ∀ a o, G a = some o → B.G a = some o ∨ B.F a = none ∨ ∃ xs, o = .tup xs
  sub : Ex G H
  frm : Ex B.F H
def Sta (B : Base) (S : Stt) (T : List Slot) (σ : St) (tv : List V) (H : Hp) : Prop := ∃ G as bs, St0 B S T σ tv H G as bs
def Slot.plain : Slot → Bool
  | .own _ => false
  | .ownA _ _ => false
  | .otup _ => false
  | _ => true
/-- something is known, and nothing is owned -/
def Slot.there : Slot → Bool
  | .own _ => false
  | .ownA _ _ => false
  | .otup _ => false
  | .any => false
  | _ => true
section
variable {B : Base} {S : Stt} {T : List Slot} {σ : St} {tv : List V} {H G : Hp} {x y : Slot} {v u : V}
theorem SlI.ok {as : List Addr} (h : SlI G H x v as) (hp : x.plain = true) : SlOk G x (some v) := by
  cases h with
  | any => trivial
  | v => rfl
  | val h => exact ⟨_, rfl, h⟩
  | own _ _ => cases hp
  | ownA _ _ => cases hp
  | otup _ _ => cases hp
  | say m h => exact ⟨_, rfl, m, h⟩
theorem SlI.nil {as : List Addr} (h : SlI G H x v as) (hp : x.plain = true) : as = [] := by
  cases h with
  | any => rfl
  | v => rfl
  | val h => rfl
  | own _ _ => cases hp
  | ownA _ _ => cases hp
  | otup _ _ => cases hp
  | say m h => rfl
theorem SlOk.sl (h : SlOk G x (some v)) : SlI G H x v [] := by
  cases x with
  | any => exact .any
  | v w => cases h; exact .v
  | val z => obtain ⟨_, e, h⟩ := h; cases e; exact .val h
  | own c => cases h
  | ownA _ c => cases h
  | otup _ => cases h
  | say φ => obtain ⟨_, e, m, h⟩ := h; cases e; exact .say m h
theorem Sta.top (h : Sta B S (x :: T) σ (v :: tv) H) : ∃ G as, SlI G H x v as ∧ Ex G H := by
  obtain ⟨G, as, bs, z⟩ := h
  cases z.tmp with
  | cons h1 h2 => exact ⟨G, _, h1, z.sub⟩
theorem Sta.drop (h : Sta B S (x :: T) σ (v :: tv) H) : Sta B S T σ tv H := by
  obtain ⟨G, as, bs, z⟩ := h
  obtain ⟨z1, z2, z3, z4, z5, z6, z7, z8, z9⟩ := z
  cases z1 with
  | @cons _ _ a1 _ _ a2 h1 h2 =>
    refine ⟨G, a2, bs, h2, z2, z3, ?_, fun a ha => z5 a ?_, z6, z7, z8, z9⟩
    · rw [List.append_assoc] at z4
      exact (List.nodup_append.mp z4).2.1
    · rw [List.append_assoc]
      exact List.mem_append_right _ ha
/-- a value that owns nothing is laid on top -/
theorem Sta.push (h : Sta B S T σ tv H) (hz : ∀ G, Ex G H → SlI G H x v []) : Sta B S (x :: T) σ (v :: tv) H := by
  obtain ⟨G, as, bs, z⟩ := h
  exact ⟨G, [] ++ as, bs, .cons (hz G z.sub) z.tmp, z.cel, z.slo, z.nod, z.fre, z.gro, z.new, z.sub, z.frm⟩
theorem Sta.get {i : Nat} {s : Slot} (h : Sta B S T σ tv H) (hs : S.sl[i]? = some s) (hn : s.there = true) : ∃ v, σ[i]? = some (some v) ∧ Sta B S (s :: T) σ (v :: tv) H := by
  obtain ⟨G, as, bs, z⟩ := h
  obtain ⟨o, h1, h2⟩ := z.slo.2 i s hs
  have : ∃ v, o = some v := by
    cases s with
    | any => cases hn
    | v w => exact ⟨w, h2⟩
    | val z => obtain ⟨u, e, _⟩ := h2; exact ⟨u, e⟩
    | own c => cases hn
    | ownA _ c => cases hn
    | otup _ => cases hn
    | say φ => obtain ⟨u, e, _⟩ := h2; exact ⟨u, e⟩
  obtain ⟨v, rfl⟩ := this
  exact ⟨v, h1, G, [] ++ as, bs, .cons h2.sl z.tmp, z.cel, z.slo, z.nod, z.fre, z.gro, z.new, z.sub, z.frm⟩
theorem Sta.set (h : Sta B S (x :: T) σ (v :: tv) H) (hp : x.plain = true) (i : Nat) : Sta B ⟨S.sl.set i x, S.cs⟩ T (σ.set i (some v)) tv H := by
  obtain ⟨G, as, bs, z⟩ := h
  obtain ⟨z1, z2, z3, z4, z5, z6, z7, z8, z9⟩ := z
  cases z1 with
  | @cons _ _ a1 _ _ a2 h1 h2 =>
    have e := h1.nil hp
    subst e
    exact ⟨G, a2, bs, h2, z2, z3.set i (h1.ok hp), z4, z5, z6, z7, z8, z9⟩
/-- an owned thing gets a name -/
theorem Sta.name {c : Cel} (h : Sta B S (.own c :: T) σ (v :: tv) H) : ∃ p, v = .ref p ∧ Sta B ⟨S.sl, S.cs ++ [(p, c)]⟩ (.v (.ref p) :: T) σ (.ref p :: tv) H := by
  obtain ⟨G, as, bs, z⟩ := h
  obtain ⟨z1, z2, z3, z4, z5, z6, z7, z8, z9⟩ := z
  cases z1 with
  | @cons _ _ a1 _ _ a2 h1 h2 =>
    cases h1 with
    | @own _ p o m hp hc =>
      have pm : (([] ++ a2) ++ (bs ++ (p :: (m ++ [])))).Perm ((p :: m) ++ a2 ++ bs) := by
        simp only [List.nil_append, List.append_nil]
        have e1 : (a2 ++ (bs ++ (p :: m))).Perm ((a2 ++ bs) ++ (p :: m)) := by rw [List.append_assoc]
        have e2 : ((a2 ++ bs) ++ (p :: m)).Perm ((p :: m) ++ (a2 ++ bs)) := List.perm_append_comm
        have e3 : ((p :: m) ++ (a2 ++ bs)).Perm ((p :: m) ++ a2 ++ bs) := by rw [List.append_assoc]
        exact e1.trans (e2.trans e3)
      exact ⟨p, rfl, G, [] ++ a2, bs ++ (p :: (m ++ [])), .cons .v h2, z2.app (.cons hp hc .nil), z3, pm.nodup_iff.mpr z4, fun a ha => z5 a (pm.mem_iff.mp ha), z6, z7, z8, z9⟩
end
section
variable (X : Cx)
structure teOf (e : Expr) (σ : St) (H : Hp) (Q : VK) : Prop where
  run : ∀ pins s, Inv X pins σ H s → wpAny (model X.prog X.w) X.A (eval e X.env) (EP X pins σ Q) X.xe s
structure ttOf (e : Expr) (σ : St) (H : Hp) (Q : Bool → Hp → Prop) : Prop where
  run : ∀ pins s, Inv X pins σ H s → wpAny (model X.prog X.w) X.A (isTrue e X.env (eval e X.env)) (TP X pins σ Q) X.xe s
structure twOf (e : Expr) (σ : St) (H : Hp) (Q : Bool → Hp → Prop) : Prop where
  run : ∀ whole pins s, Inv X pins σ H s → wpAny (model X.prog X.w) X.A (isTrue e X.env whole) (TP X pins σ Q) X.xe s
structure taOf (es : List Expr) (σ : St) (H : Hp) (Q : List V → Hp → Prop) : Prop where
  run : ∀ pos pins s, Inv X pins σ H s → wpAny (model X.prog X.w) X.A (spliced (backTo pos (starEach es X.env))) (AP X pins σ Q) X.xe s
structure tbOf (st : List Stmt) (D : Ends) (σ : St) (H : Hp) : Prop where
  run : ∀ pins s, Inv X pins σ H s → wpAny (model X.prog X.w) X.A (execs st X.env) (SP X pins D) X.xe s
end
section
variable {X : Cx}
theorem pe0 {e : Expr} : PE X e (teOf X e) := ⟨fun pins s _ _ _ I h => h.run pins s I⟩
theorem pt0 {e : Expr} : PT X e (ttOf X e) := ⟨fun pins s _ _ _ I h => h.run pins s I⟩
theorem pw0 {e : Expr} : PW X e (twOf X e) := ⟨fun wh pins s _ _ _ I h => h.run wh pins s I⟩
theorem pa0 {es : List Expr} : PA X es (taOf X es) := ⟨fun pos pins s _ _ _ I h => h.run pos pins s I⟩
theorem pb0 {st : List Stmt} : PSs X st (tbOf X st) := ⟨fun pins s _ _ _ I h => h.run pins s I⟩
theorem pe1 {e : Expr} {t : TE} (h : PE X e t) {σ : St} {H : Hp} {Q : VK} (q : t σ H Q) : teOf X e σ H Q := ⟨fun pins s I => h.run pins s σ H Q I q⟩
theorem pt1 {e : Expr} {t : TT} (h : PT X e t) {σ : St} {H : Hp} {Q : Bool → Hp → Prop} (q : t σ H Q) : ttOf X e σ H Q := ⟨fun pins s I => h.run pins s σ H Q I q⟩
theorem pw1 {e : Expr} {t : TT} (h : PW X e t) {σ : St} {H : Hp} {Q : Bool → Hp → Prop} (q : t σ H Q) : twOf X e σ H Q := ⟨fun wh pins s I => h.run wh pins s σ H Q I q⟩
theorem pa1 {es : List Expr} {t : TA} (h : PA X es t) {σ : St} {H : Hp} {Q : List V → Hp → Prop} (q : t σ H Q) : taOf X es σ H Q := ⟨fun pos pins s I => h.run pos pins s σ H Q I q⟩
theorem pb1 {st : List Stmt} {t : TS} (h : PSs X st t) {σ : St} {H : Hp} {D : Ends} (q : t D σ H) : tbOf X st D σ H := ⟨fun pins s I => h.run pins s σ H D I q⟩
end
abbrev FK := List Slot → List V → St → Hp → Prop
structure FE : Type 1 where
  nx : FK
  rt : V → Hp → Prop
  bk : FK := fun _ _ _ _ => False
  ct : FK := fun _ _ _ _ => False
abbrev FE.at (D : FE) (T : List Slot) (tv : List V) : Ends := ⟨D.nx T tv, D.rt, D.bk T tv, D.ct T tv⟩
section
variable (X : Cx) (B : Base)
def JE (S : Stt) (e : Expr) (S' : Stt) (x : Slot) : Prop := ∀ T tv σ H Q, Sta B S T σ tv H → (∀ v H', Sta B S' (x :: T) σ (v :: tv) H' → Q v H') → teOf X e σ H Q
def JT (S : Stt) (e : Expr) (S' : Stt) (b : Bool) : Prop := ∀ T tv σ H Q, Sta B S T σ tv H → (∀ H', Sta B S' T σ tv H' → Q b H') → ttOf X e σ H Q
def JW (S : Stt) (e : Expr) (S' : Stt) (b : Bool) : Prop := ∀ T tv σ H Q, Sta B S T σ tv H → (∀ H', Sta B S' T σ tv H' → Q b H') → twOf X e σ H Q
/-- arguments: from the left; they lie in their order -/
def JA (S : Stt) (es : List Expr) (S' : Stt) (xs : List Slot) : Prop := ∀ T tv σ H Q, Sta B S T σ tv H → (∀ vs H', vs.length = xs.length → Sta B S' (xs ++ T) σ (vs ++ tv) H' → Q vs H') → taOf X es σ H Q
def JS (S : Stt) (st : List Stmt) (D : FE) : Prop := ∀ T tv σ H, Sta B S T σ tv H → tbOf X st (D.at T tv) σ H
def FE.seq (D : FE) (rest : List Stmt) : FE := { D with nx := fun T tv σ H => tbOf X rest (D.at T tv) σ H }
end
end J
namespace J
open PySem L2
open PySem.W (Datum)
section
variable {X : Cx} {B : Base} {S S1 S2 S3 : Stt} {x y z : Slot} {a b e : Expr} {es : List Expr} {pos : Pos}
theorem je_var (i : Nat) {n : Str} {s : Slot} (hs : S.sl[i]? = some s) (hn : s.there = true := by rfl) (hN : X.N[i]? = some n := by rfl)
    (hv : Vis X.env.scope n := by first | exact Or.inl rfl | exact Or.inr (Or.inl rfl) | exact Or.inr (Or.inr rfl)) (hd : (n == ("__debug__" : Str)) = false := by decide) (hcd : (n == ("__classdict__" : Str)) = false := by decide) : JE X B S (.Name n pos) S s := by
  intro T tv σ H Q h q
  obtain ⟨v, h1, h2⟩ := h.get hs hn
  exact pe1 (pe_var hN hv hd hcd) ⟨v, h1, q v H h2⟩
theorem je_int {i : Int} {j : Nat} : JE X B S (.Constant (.int i) j pos) S (.val i) := fun T tv σ H Q h q => pe1 pe_int (q _ _ (h.push fun _ _ => .val (.int i)))
theorem je_bl {k : Bool} {j : Nat} : JE X B S (.Constant (.bool k) j pos) S (.val k) := fun T tv σ H Q h q => pe1 pe_bl (q _ _ (h.push fun _ _ => .val (.bl k)))
theorem je_str {k : Str} {j : Nat} : JE X B S (.Constant (.str k) j pos) S (.val k) := fun T tv σ H Q h q => pe1 pe_str (q _ _ (h.push fun _ _ => .val (.str k)))
theorem je_non {j : Nat} : JE X B S (.Constant .none j pos) S (.v .non) := fun T tv σ H Q h q => pe1 pe_non (q _ _ (h.push fun _ _ => .v))
/-- the same value, said otherwise -/
theorem je_as (h : JE X B S e S1 x) (k : ∀ {G H u as}, SlI G H x u as → SlI G H y u as) : JE X B S e S1 y := by
  intro T tv σ H Q hs q
  refine h T tv σ H Q hs fun v H' g => q v H' ?_
  obtain ⟨G, as, bs, z1, z2, z3, z4, z5, z6, z7, z8, z9⟩ := g
  cases z1 with
  | cons h1 h2 => exact ⟨G, _, bs, .cons (k h1) h2, z2, z3, z4, z5, z6, z7, z8, z9⟩
theorem jt_eq {p q : Bool} (h : JT X B S e S1 p) (k : p = q) : JT X B S e S1 q := k ▸ h
def O2 (X : Cx) (B : Base) (r : R2) (S : Stt) (x y : Slot) (S' : Stt) (z : Slot) : Prop := ∀ T tv σ v u H Q, Sta B S (y :: x :: T) σ (u :: v :: tv) H → (∀ w H', Sta B S' (z :: T) σ (w :: tv) H' → Q w H') → r v u H Q
def O1 (X : Cx) (B : Base) (r : V → Hp → VK → Prop) (S : Stt) (x : Slot) (S' : Stt) (z : Slot) : Prop := ∀ T tv σ v H Q, Sta B S (x :: T) σ (v :: tv) H → (∀ w H', Sta B S' (z :: T) σ (w :: tv) H' → Q w H') → r v H Q
theorem je_op {op : Operator} {r : R2} (ho : OpR X (binaryOp op) r) (ha : JE X B S a S1 x) (hb : JE X B S1 b S2 y) (hr : O2 X B r S2 x y S3 z) : JE X B S (.BinOp a op b pos) S3 z := by
  intro T tv σ H Q h q
  refine pe1 (pe_op ho pe0 pe0) (ha _ _ _ _ _ h fun v H1 h1 => hb _ _ _ _ _ h1 fun u H2 h2 => hr _ _ _ _ _ _ _ h2 q)
theorem je_un {op : UnaryOp} {r : V → Hp → VK → Prop} (ho : UnR X (unaryOp op) r) (ha : JE X B S a S1 x) (hr : O1 X B r S1 x S2 z) : JE X B S (.UnaryOp op a pos) S2 z := by
  intro T tv σ H Q h q
  refine pe1 (pe_un ho pe0) (ha _ _ _ _ _ h fun v H1 h1 => hr _ _ _ _ _ _ h1 q)
theorem je_cmp {op : CmpOp} {r : R2} (ho : OpR X (compareOp op) r) (ha : JE X B S a S1 x) (hb : JE X B S1 b S2 y) (hr : O2 X B r S2 x y S3 z) (hm : behindInMarks op b = false) : JE X B S (.Compare a [op] [b] pos) S3 z := by
  intro T tv σ H Q h q
  refine pe1 (pe_cmpR ho pe0 pe0 hm) (ha _ _ _ _ _ h fun v H1 h1 => hb _ _ _ _ _ h1 fun u H2 h2 => hr _ _ _ _ _ _ _ h2 q)
theorem Sta.bool {T : List Slot} {σ : St} {tv : List V} {H : Hp} {v : V} {k : Bool} (h : Sta B S (.val k :: T) σ (v :: tv) H) : v = .bl k := by
  obtain ⟨G, as, h1, _⟩ := h.top
  cases h1 with
  | val h => cases (show Dq G v (.bool k) from h); rfl
theorem Sta.int {T : List Slot} {σ : St} {tv : List V} {H : Hp} {v : V} {k : Int} (h : Sta B S (.val k :: T) σ (v :: tv) H) : v = .int k := by
  obtain ⟨G, as, h1, _⟩ := h.top
  cases h1 with
  | val h => cases (show Dq G v (.int k) from h); rfl
theorem Sta.str {T : List Slot} {σ : St} {tv : List V} {H : Hp} {v : V} {k : Str} (h : Sta B S (.val k :: T) σ (v :: tv) H) : v = .str k := by
  obtain ⟨G, as, h1, _⟩ := h.top
  cases h1 with
  | val h => cases (show Dq G v (.str k) from h); rfl
theorem Sta.exact {T : List Slot} {σ : St} {tv : List V} {H : Hp} {v w : V} (h : Sta B S (.v w :: T) σ (v :: tv) H) : v = w := by
  obtain ⟨G, as, h1, _⟩ := h.top
  cases h1 with
  | v => rfl
theorem jt_cmp {op : CmpOp} {r : R2} {k : Bool} (ho : OpR X (compareOp op) r) (ha : JE X B S a S1 x) (hb : JE X B S1 b S2 y) (hr : O2 X B r S2 x y S3 (.val k)) (hm : behindInMarks op b = false) : JT X B S (.Compare a [op] [b] pos) S3 k := by
  intro T tv σ H Q h q
  refine pt1 (pt_cmpR ho pe0 pe0 hm) (ha _ _ _ _ _ h fun v H1 h1 => hb _ _ _ _ _ h1 fun u H2 h2 => hr _ _ _ _ _ _ _ h2 fun w H3 h3 => ?_)
  have e := h3.bool
  subst e
  exact ⟨k, rfl, q _ h3.drop⟩
theorem o2_i0 {g : Int → Int → V} {i j : Int} {z : Slot} (hz : ∀ G H, SlI G H z (g i j) []) : O2 X B (rI0 g) S (.val i) (.val j) S z := by
  intro T tv σ v u H Q h q
  have e1 := h.int
  have e2 := h.drop.int
  subst e1 e2
  exact ⟨i, j, rfl, rfl, q _ _ (h.drop.drop.push fun G _ => hz G H)⟩
theorem o2_i {C : Int → Int → Prop} {g : Int → Int → V} {i j : Int} {z : Slot} (hc : C i j) (hz : ∀ G H, SlI G H z (g i j) []) : O2 X B (rI C g) S (.val i) (.val j) S z := by
  intro T tv σ v u H Q h q
  have e1 := h.int
  have e2 := h.drop.int
  subst e1 e2
  exact ⟨i, j, rfl, rfl, hc, q _ _ (h.drop.drop.push fun G _ => hz G H)⟩
theorem sl_int {G H : Hp} (i : Int) : SlI G H (.val i) (.int i) [] := .val (.int i)
theorem sl_bl {G H : Hp} (k : Bool) : SlI G H (.val k) (.bl k) [] := .val (.bl k)
variable {i j : Int}
theorem je_add (ha : JE X B S a S1 (.val i)) (hb : JE X B S1 b S2 (.val j)) : JE X B S (.BinOp a .Add b pos) S2 (.val (i + j)) := je_op op_add ha hb (o2_i0 fun _ _ => sl_int _)
theorem je_sub (ha : JE X B S a S1 (.val i)) (hb : JE X B S1 b S2 (.val j)) : JE X B S (.BinOp a .Sub b pos) S2 (.val (i - j)) := je_op op_sub ha hb (o2_i0 fun _ _ => sl_int _)
theorem je_mul (ha : JE X B S a S1 (.val i)) (hb : JE X B S1 b S2 (.val j)) (hc : CMul i j) : JE X B S (.BinOp a .Mult b pos) S2 (.val (i * j)) := je_op op_mul ha hb (o2_i hc fun _ _ => sl_int _)
theorem je_div (ha : JE X B S a S1 (.val i)) (hb : JE X B S1 b S2 (.val j)) (hc : 0 < j ∧ j < 18446744073709551616) : JE X B S (.BinOp a .FloorDiv b pos) S2 (.val (i / j)) :=
  je_op op_fdivW ha hb (o2_i (wide_div (b := 64) hc.1 (by have := hc.1; have := hc.2; omega) (by decide) (by decide)) fun _ _ => sl_int _)
theorem je_mod (ha : JE X B S a S1 (.val i)) (hb : JE X B S1 b S2 (.val j)) (hc : 0 < j) : JE X B S (.BinOp a .Mod b pos) S2 (.val (i % j)) := je_op op_mod ha hb (o2_i hc fun _ _ => sl_int _)
theorem je_pow {n : Nat} (ha : JE X B S a S1 (.val i)) (hb : JE X B S1 b S2 (.val (n : Int))) (hn : n ≤ 1000000) (hc : i.natAbs < 18446744073709551616) : JE X B S (.BinOp a .Pow b pos) S2 (.val (i ^ n)) :=
  je_op op_pow ha hb (o2_i ⟨Int.natCast_nonneg _, by omega, hc⟩ fun _ _ => sl_int _)
theorem je_neg (ha : JE X B S a S1 (.val i)) : JE X B S (.UnaryOp .USub a pos) S1 (.val (-i)) := je_un un_neg ha fun T tv σ v H Q h q => by
  have e := h.int
  subst e
  exact ⟨i, rfl, q _ _ (h.drop.push fun _ _ => sl_int _)⟩
section
variable {op : CmpOp}
theorem jt_lt (ha : JE X B S a S1 (.val i)) (hb : JE X B S1 b S2 (.val j)) : JT X B S (.Compare a [.Lt] [b] pos) S2 (decide (i < j)) := jt_cmp op_lt ha hb (o2_i0 fun _ _ => sl_bl _) (nomark _)
theorem jt_gt (ha : JE X B S a S1 (.val i)) (hb : JE X B S1 b S2 (.val j)) : JT X B S (.Compare a [.Gt] [b] pos) S2 (decide (j < i)) := jt_cmp op_gt ha hb (o2_i0 fun _ _ => sl_bl _) (nomark _)
theorem jt_ge (ha : JE X B S a S1 (.val i)) (hb : JE X B S1 b S2 (.val j)) : JT X B S (.Compare a [.GtE] [b] pos) S2 (decide (j ≤ i)) := jt_cmp op_ge ha hb (o2_i0 fun _ _ => sl_bl _) (nomark _)
end
section
variable {p q : Bool} {rest : List Expr}
theorem jt_bl (h : JE X B S e S1 (.val p)) (he : ∀ whole, isTrue e X.env whole = (do let v ← whole; standAt e.pos; holding [v] (truthy v)) := by intro _; rfl) : JT X B S e S1 p := by
  intro T tv σ H Q hs k
  refine pt1 (pt_val pe0 he) (h _ _ _ _ _ hs fun v H1 h1 => ?_)
  have e := h1.bool
  subst e
  exact ⟨p, rfl, k _ h1.drop⟩
theorem jt_not (h : JT X B S a S1 p) : JT X B S (.UnaryOp .Not a pos) S1 (!p) := fun T tv σ H Q hs k => pt1 (pt_not pt0) (h _ _ _ _ _ hs fun H1 h1 => k _ h1)
theorem jw_and1 (h : JT X B S a S1 p) : JW X B S (.BoolOp .And [a] pos) S1 p := fun T tv σ H Q hs k => pw1 (pw_and1 pt0) (h _ _ _ _ _ hs k)
theorem jw_or1 (h : JT X B S a S1 p) : JW X B S (.BoolOp .Or [a] pos) S1 p := fun T tv σ H Q hs k => pw1 (pw_or1 pt0) (h _ _ _ _ _ hs k)
/-- the second one is asked where the first one is true; it leaves the state (pure), or the state is one for both -/
theorem jw_and (h : JT X B S a S1 p) (h2 : p = true → JW X B S1 (.BoolOp .And (b :: rest) pos) S1 q) : JW X B S (.BoolOp .And (a :: b :: rest) pos) S1 (p && q) := by
  intro T tv σ H Q hs k
  refine pw1 (pw_and pt0 pw0) (h _ _ _ _ _ hs fun H1 h1 => ?_)
  cases p with
  | true => exact iteT (h2 rfl _ _ _ _ _ h1 fun H2 g2 => k _ g2)
  | false => exact iteF (k _ h1)
theorem jw_or (h : JT X B S a S1 p) (h2 : p = false → JW X B S1 (.BoolOp .Or (b :: rest) pos) S1 q) : JW X B S (.BoolOp .Or (a :: b :: rest) pos) S1 (p || q) := by
  intro T tv σ H Q hs k
  refine pw1 (pw_or pt0 pw0) (h _ _ _ _ _ hs fun H1 h1 => ?_)
  cases p with
  | true => exact iteT (k _ h1)
  | false => exact iteF (h2 rfl _ _ _ _ _ h1 fun H2 g2 => k _ g2)
theorem JW.t (h : JW X B S e S1 p) : JT X B S e S1 p := fun T tv σ H Q hs k => pt1 pw0.pt (h _ _ _ _ _ hs k)
theorem je_if {c : Expr} (h : JT X B S c S1 p) (h1 : p = true → JE X B S1 a S2 z) (h2 : p = false → JE X B S1 b S2 z) : JE X B S (.IfExp c a b pos) S2 z := by
  intro T tv σ H Q hs k
  refine pe1 (pe_ifExp pt0 pe0 pe0) (h _ _ _ _ _ hs fun H1 g => ?_)
  cases p with
  | true => exact iteT (h1 rfl _ _ _ _ _ g k)
  | false => exact iteF (h2 rfl _ _ _ _ _ g k)
end
theorem SsI.rot {G H : Hp} {xs T : List Slot} {vs tv : List V} {s : Slot} {u : V} {as : List Addr} (hl : xs.length = vs.length) (h : SsI G H (xs ++ s :: T) (vs ++ u :: tv) as) : ∃ bs, SsI G H (s :: (xs ++ T)) (u :: (vs ++ tv)) bs ∧ bs.Perm as := by
  obtain ⟨a1, a2, rfl, h1, h2⟩ := SsI.split hl h
  cases h2 with
  | @cons _ _ b1 _ _ b2 h3 h4 =>
    refine ⟨_, .cons h3 (h1.app h4), ?_⟩
    have e1 : (b1 ++ (a1 ++ b2)).Perm ((a1 ++ b2) ++ b1) := List.perm_append_comm
    have e2 : ((a1 ++ b2) ++ b1).Perm (a1 ++ (b2 ++ b1)) := by rw [List.append_assoc]
    exact e1.trans (e2.trans (List.Perm.append_left _ List.perm_append_comm))
theorem Sta.rot {xs T : List Slot} {σ : St} {vs tv : List V} {H : Hp} {s : Slot} {u : V} (hl : xs.length = vs.length) (h : Sta B S (xs ++ s :: T) σ (vs ++ u :: tv) H) : Sta B S (s :: (xs ++ T)) σ (u :: (vs ++ tv)) H := by
  obtain ⟨G, as, bs, z1, z2, z3, z4, z5, z6, z7, z8, z9⟩ := h
  obtain ⟨cs, h1, hp⟩ := z1.rot hl
  have hp2 : (cs ++ bs).Perm (as ++ bs) := List.Perm.append_right _ hp
  exact ⟨G, cs, bs, h1, z2, z3, hp2.nodup_iff.mpr z4, fun a ha => z5 a (hp2.mem_iff.mp ha), z6, z7, z8, z9⟩
theorem ja_nil : JA X B S [] S [] := fun T tv σ H Q h q => pa1 pa_nil (q [] H rfl h)
theorem ja_cons {xs : List Slot} (h1 : JE X B S e S1 x) (h2 : JA X B S1 es S2 xs) (hs : starEach (e :: es) X.env = (false, eval e X.env) :: starEach es X.env := by rfl) : JA X B S (e :: es) S2 (x :: xs) := by
  intro T tv σ H Q h q
  exact pa1 (pa_cons pe0 pa0 hs) (h1 _ _ _ _ _ h fun v H1 g1 => h2 _ _ _ _ _ g1 fun vs H2 hl g2 => q (v :: vs) H2 (congrArg Nat.succ hl) (Sta.rot hl.symm g2))
end
end J
namespace J
open PySem L2
open PySem.W (Datum)
def forM {ι α : Type} (f : ι → α → Option ι) : List α → ι → Option ι
  | [], s => some s
  | x :: xs, s => (f s x).bind (forM f xs)
/-- a turn: on, out of the loop, out of the def -/
inductive Lp (ι ρ : Type) where
  | nx (s : ι)
  | bk (s : ι)
  | rt (r : ρ)
/-- .. the loop: ended (or left by break), or the def is left -/
def forL {ι α ρ : Type} (f : ι → α → Option (Lp ι ρ)) : List α → ι → Option (Sum ι ρ)
  | [], s => some (.inl s)
  | x :: xs, s => (f s x).bind fun
    | .nx s' => forL f xs s'
    | .bk s' => some (.inl s')
    | .rt r => some (.inr r)
def whileM {ι : Type} (c : ι → Option Bool) (f : ι → Option ι) : Nat → ι → Option ι
  | 0, _ => none
  | n + 1, s => (c s).bind fun b => if b = true then (f s).bind (whileM c f n) else some s
theorem bnd {α β : Type} {m : Option α} {f : α → Option β} {r : β} {C : Prop} (h : m.bind f = some r) (k : ∀ x, m = some x → f x = some r → C) : C := by
  cases m with
  | none => cases h
  | some x => exact k x rfl h
section
variable {X : Cx} {B : Base} {S S1 S2 S3 : Stt} {x y z : Slot} {a b e : Expr} {es : List Expr} {pos : Pos} {D : FE} {rest : List Stmt}
theorem js_step {st : Stmt} {t : TS} (hp : PS X st t) (h : ∀ T tv σ H, Sta B S T σ tv H → t ((D.seq X rest).at T tv) σ H) : JS X B S (st :: rest) D :=
  fun T tv σ H hs => pb1 (pss_cons hp pb0) (h T tv σ H hs)
theorem js_nil (h : ∀ T tv σ H, Sta B S T σ tv H → D.nx T tv σ H) : JS X B S [] D := fun T tv σ H hs => pb1 pss_nil (h T tv σ H hs)
theorem js_end (h : JS X B S rest D) : JS X B S [] (D.seq X rest) := js_nil h
theorem js_set (i : Nat) {n : Str} {pos' : Pos} (he : JE X B S e S1 x) (k : JS X B ⟨S1.sl.set i x, S1.cs⟩ rest D) (hp : x.plain = true := by rfl) (hN : X.N.Nodup := by assumption) (hi : X.N[i]? = some n := by rfl)
    (hx : Loc X.env.scope n := by first | exact .inl rfl | exact .inr rfl) (hs : swapsWith e (some (.Name n pos')) pos.line X.env = pure false := by rfl) (hf : X.fn n = true ∨ X.env.scope.names.lookup n = some .local := by first | exact .inl rfl | exact .inr rfl) :
    JS X B S (.Assign [.Name n pos'] e pos :: rest) D :=
  js_step (ps_set hN hi hx pe0 hs hf) fun T tv σ H h => he _ _ _ _ _ h fun v H1 h1 => k _ _ _ _ (h1.set hp i)
/-- a new thing under a name -/
theorem js_new (i : Nat) {n : Str} {pos' : Pos} {c : Cel} (he : JE X B S e S1 (.own c)) (k : ∀ p, JS X B ⟨S1.sl.set i (.v (.ref p)), S1.cs ++ [(p, c)]⟩ rest D) (hN : X.N.Nodup := by assumption) (hi : X.N[i]? = some n := by rfl)
    (hx : Loc X.env.scope n := by first | exact .inl rfl | exact .inr rfl) (hs : swapsWith e (some (.Name n pos')) pos.line X.env = pure false := by rfl) (hf : X.fn n = true ∨ X.env.scope.names.lookup n = some .local := by first | exact .inl rfl | exact .inr rfl) :
    JS X B S (.Assign [.Name n pos'] e pos :: rest) D :=
  js_step (ps_set hN hi hx pe0 hs hf) fun T tv σ H h => he _ _ _ _ _ h fun v H1 h1 => by
    obtain ⟨p, rfl, h2⟩ := h1.name
    exact k p _ _ _ _ (h2.set rfl i)
theorem js_expr (he : JE X B S e S1 x) (k : JS X B S1 rest D) (hs : swapsWith e none pos.line X.env = pure false := by rfl) : JS X B S (.Expr e pos :: rest) D :=
  js_step (ps_expr pe0 hs) fun T tv σ H h => he _ _ _ _ _ h fun v H1 h1 => k _ _ _ _ h1.drop
/-- what a def hands back, and the cells that it leaves -/
def Out (B : Base) (x : Slot) (cs : List (Addr × Cel)) : V → Hp → Prop := fun v H => Sta B ⟨[], cs⟩ [x] [] [v] H
theorem Sta.only {T : List Slot} {σ : St} {tv : List V} {H : Hp} {v : V} (h : Sta B S (x :: T) σ (v :: tv) H) : Out B x S.cs v H := by
  obtain ⟨G, as, bs, z1, z2, z3, z4, z5, z6, z7, z8, z9⟩ := h
  cases z1 with
  | @cons _ _ a1 _ _ a2 h1 h2 =>
    have hl : (a1 ++ [] ++ bs).Sublist (a1 ++ a2 ++ bs) := ((List.Sublist.refl a1).append (List.nil_sublist a2)).append (List.Sublist.refl bs)
    exact ⟨G, a1 ++ [], bs, .cons h1 .nil, z2, ⟨rfl, fun i s hs => by simp at hs⟩, hl.nodup z4, fun a ha => z5 a (hl.mem ha), z6, z7, z8, z9⟩
theorem js_ret (he : JE X B S e S1 x) (k : ∀ v H', Out B x S1.cs v H' → D.rt v H') : JS X B S (.Return (some e) pos :: rest) D :=
  js_step (ps_ret pe0) fun T tv σ H h => he _ _ _ _ _ h fun v H1 h1 => k v H1 h1.only
theorem js_retN (k : ∀ H', Out B (.v .non) S.cs .non H' → D.rt .non H') : JS X B S (.Return none pos :: rest) D :=
  js_step ps_retN fun T tv σ H h => k H (Sta.only (h.push fun _ _ => .v))
/-- both ways go on with what follows -/
theorem js_if {c : Expr} {th el : List Stmt} {p : Bool} (hc : JT X B S c S1 p) (h1 : p = true → JS X B S1 th (D.seq X rest)) (h2 : p = false → JS X B S1 el (D.seq X rest)) : JS X B S (.If c th el pos :: rest) D :=
  js_step (ps_if pt0 pb0 pb0) fun T tv σ H h => hc _ _ _ _ _ h fun H1 g => by
    cases p with
    | true => exact iteT (h1 rfl _ _ _ _ g)
    | false => exact iteF (h2 rfl _ _ _ _ g)
/-- less is known: some slots are forgotten, the last cells dropped -/
inductive Fgt : List Slot → List Slot → Prop where
  | nil : Fgt [] []
  | keep {s : Slot} {l m : List Slot} : Fgt l m → Fgt (s :: l) (s :: m)
  | drop {s : Slot} {l m : List Slot} : Fgt l m → Fgt (s :: l) (.any :: m)
theorem Fgt.len : ∀ {l m : List Slot}, Fgt l m → l.length = m.length
  | _, _, .nil => rfl
  | _, _, .keep h => congrArg Nat.succ h.len
  | _, _, .drop h => congrArg Nat.succ h.len
theorem Fgt.at : ∀ {l m : List Slot}, Fgt l m → ∀ (i : Nat) s, m[i]? = some s → s = .any ∨ l[i]? = some s
  | _, _, .nil, i, s, h => by simp at h
  | _, _, .keep h, 0, s, e => .inr e
  | _, _, .keep h, i + 1, s, e => h.at i s e
  | _, _, .drop h, 0, s, e => .inl (Option.some.inj e).symm
  | _, _, .drop h, i + 1, s, e => h.at i s e
theorem Sta.fgt {T : List Slot} {σ : St} {tv : List V} {H : Hp} {sl : List Slot} (f : Fgt S.sl sl) (h : Sta B S T σ tv H) : Sta B ⟨sl, S.cs⟩ T σ tv H := by
  obtain ⟨G, as, bs, z1, z2, z3, z4, z5, z6, z7, z8, z9⟩ := h
  refine ⟨G, as, bs, z1, z2, ⟨f.len.symm.trans z3.1, fun i s hs => ?_⟩, z4, z5, z6, z7, z8, z9⟩
  rcases f.at i s hs with e | e
  · subst e
    have hi := (List.getElem?_eq_some_iff.mp hs).1
    have hi2 : i < σ.length := z3.1 ▸ f.len ▸ hi
    exact ⟨σ[i], List.getElem?_eq_getElem hi2, trivial⟩
  · exact z3.2 i s e
theorem CsI.take {G H : Hp} : ∀ {cs : List (Addr × Cel)} {bs : List Addr} (n : Nat), CsI G H cs bs → ∃ ds, CsI G H (cs.take n) ds ∧ ds.Sublist bs
  | _, _, 0, _ => ⟨[], .nil, List.nil_sublist _⟩
  | _, _, n + 1, .nil => ⟨[], .nil, List.nil_sublist _⟩
  | _, _, n + 1, .gone h => let ⟨ds, h1, h2⟩ := CsI.take n h; ⟨ds, .gone h1, h2⟩
  | _, _, n + 1, .cons hp hc h => let ⟨ds, h1, h2⟩ := CsI.take n h; ⟨_, .cons hp hc h1, ((List.Sublist.refl _).append h2).cons_cons _⟩
theorem Sta.take {T : List Slot} {σ : St} {tv : List V} {H : Hp} (n : Nat) (h : Sta B S T σ tv H) : Sta B ⟨S.sl, S.cs.take n⟩ T σ tv H := by
  obtain ⟨G, as, bs, z1, z2, z3, z4, z5, z6, z7, z8, z9⟩ := h
  obtain ⟨ds, h1, h2⟩ := z2.take n
  have hl : (as ++ ds).Sublist (as ++ bs) := (List.Sublist.refl as).append h2
  exact ⟨G, as, ds, z1, h1, z3, hl.nodup z4, fun a ha => z5 a (hl.mem ha), z6, z7, z8, z9⟩
theorem Out.take {cs : List (Addr × Cel)} {v : V} {H : Hp} (n : Nat) (h : Out B x cs v H) : Out B x (cs.take n) v H := Sta.take (S := ⟨[], cs⟩) n h
structure tiOf (X : Cx) (tg iter : Expr) (σ : St) (H : Hp) (R : It → Hp → Prop) : Prop where
  run : ∀ pins s, Inv X pins σ H s → wpAny (model X.prog X.w) X.A (eval iter X.env) (fun v s1 => wpAny (model X.prog X.w) X.A (pyIter v) (PIE X pins σ tg R) X.xe s1) X.xe s
theorem pi0 {tg iter : Expr} : PI X tg iter (tiOf X tg iter) := ⟨fun pins s _ _ _ I h => h.run pins s I⟩
theorem pi1 {tg iter : Expr} {t : TI} (h : PI X tg iter t) {σ : St} {H : Hp} {R : It → Hp → Prop} (q : t σ H R) : tiOf X tg iter σ H R := ⟨fun pins s I => h.run pins s σ H R I q⟩
structure tgOf (X : Cx) (tg : Expr) (v : V) (σ : St) (H : Hp) (Q : St → Hp → Prop) : Prop where
  run : ∀ pins s u, Inv X pins σ H s → RelV v u → wpAny (model X.prog X.w) X.A (assign tg X.env u) (fun _ s' => ∃ σ' H', Inv X pins σ' H' s' ∧ Q σ' H') X.xe s
theorem pg0 {tg : Expr} : PG X tg (tgOf X tg) := ⟨fun pins s _ _ _ u _ I r h => h.run pins s u I r⟩
theorem pg1 {tg : Expr} {t : TG} (h : PG X tg t) {v : V} {σ : St} {H : Hp} {Q : St → Hp → Prop} (q : t v σ H Q) : tgOf X tg v σ H Q := ⟨fun pins s u I r => h.run pins s σ H v u Q I r q⟩
theorem wipe_get (σ : St) : ∀ (vs : List Nat) (j : Nat), (wipe σ vs)[j]? = if j ∈ vs then (σ[j]?).map (fun _ => none) else σ[j]?
  | [], j => by rw [if_neg (by simp)]; rfl
  | v :: vs, j => by
    have ih := wipe_get σ vs j
    show ((wipe σ vs).set v none)[j]? = _
    by_cases e : v = j
    · subst e
      rw [if_pos List.mem_cons_self]
      by_cases hl : v < σ.length
      · rw [List.getElem?_set_self (by rw [wipe_length]; exact hl), List.getElem?_eq_getElem hl]; rfl
      · rw [List.getElem?_eq_none (by rw [List.length_set, wipe_length]; omega), List.getElem?_eq_none (by omega)]; rfl
    · rw [List.getElem?_set_ne e, ih]
      by_cases h : j ∈ vs
      · rw [if_pos h, if_pos (List.mem_cons_of_mem _ h)]
      · rw [if_neg h, if_neg (by intro h2; rcases List.mem_cons.mp h2 with h3 | h3; exact e h3.symm; exact h h3)]
theorem wipe_set {σ : St} {vs : List Nat} {i : Nat} {o : Option V} (h : i ∈ vs) : wipe (σ.set i o) vs = wipe σ vs := by
  apply List.ext_getElem?
  intro j
  rw [wipe_get, wipe_get]
  by_cases hj : j ∈ vs
  · rw [if_pos hj, if_pos hj, List.getElem?_set]
    by_cases e : i = j
    · subst e
      rw [if_pos rfl]
      by_cases hl : i < σ.length
      · rw [if_pos hl, List.getElem?_eq_getElem hl]; rfl
      · rw [if_neg hl, List.getElem?_eq_none (by omega)]
    · rw [if_neg e]
  · rw [if_neg hj, if_neg hj, List.getElem?_set_ne (fun e : i = j => hj (e ▸ h))]
theorem wipe_wipe {σ : St} {vs : List Nat} : wipe (wipe σ vs) vs = wipe σ vs := by
  apply List.ext_getElem?
  intro j
  rw [wipe_get, wipe_get]
  by_cases hj : j ∈ vs
  · rw [if_pos hj, if_pos hj]
    cases σ[j]? <;> rfl
  · rw [if_neg hj]
/-- no slots but ws have changed -/
def Chg (ws : List Nat) (σ σ' : St) : Prop := ∀ vs : List Nat, (∀ i ∈ ws, i ∈ vs) → wipe σ' vs = wipe σ vs
theorem Chg.refl (ws : List Nat) (σ : St) : Chg ws σ σ := fun _ _ => rfl
theorem Chg.app {ws ws' : List Nat} {σ σ1 σ2 : St} (a : Chg ws σ σ1) (b : Chg ws' σ1 σ2) : Chg (ws ++ ws') σ σ2 := fun vs h => (b vs fun i hi => h i (List.mem_append_right _ hi)).trans (a vs fun i hi => h i (List.mem_append_left _ hi))
/-- a target takes the topmost value; ws: the slots that it sets -/
def JG (X : Cx) (B : Base) (S : Stt) (tg : Expr) (x : Slot) (S' : Stt) (ws : List Nat) : Prop := ∀ T tv σ v H Q, Sta B S (x :: T) σ (v :: tv) H → (∀ σ' H', Chg ws σ σ' → Sta B S' T σ' tv H' → Q σ' H') → tgOf X tg v σ H Q
theorem jg_name (i : Nat) {n : Str} (hp : x.plain = true := by rfl) (hN : X.N.Nodup := by assumption) (hi : X.N[i]? = some n := by rfl) (hx : Loc X.env.scope n := by first | exact .inl rfl | exact .inr rfl) (hf : X.fn n = true ∨ X.env.scope.names.lookup n = some .local := by first | exact .inl rfl | exact .inr rfl) :
    JG X B S (.Name n pos) x ⟨S.sl.set i x, S.cs⟩ [i] := fun T tv σ v H Q h q => pg1 (pg_name hN hi hx hf) (q _ _ (fun vs hv => wipe_set (hv i List.mem_cons_self)) (h.set hp i))
/-- what a loop walks: n turns, the items; zs are held meanwhile; ok: the states that let it be -/
structure Wk (X : Cx) (B : Base) (zs : List Slot) (zv : List V) (its : List Slot) (ok : Stt → Prop) (J : It) : Prop where
  go : ∀ S T σ tv H (i : Nat) x, ok S → its[i]? = some x → Sta B S (zs ++ T) σ (zv ++ tv) H → J.go i H ∧ ∀ v H', J.yld i H v H' → Sta B S (x :: (zs ++ T)) σ (v :: (zv ++ tv)) H'
  stop : ∀ S T σ tv H, ok S → Sta B S (zs ++ T) σ (zv ++ tv) H → J.stop its.length H
def JI (X : Cx) (B : Base) (S : Stt) (tg iter : Expr) (S' : Stt) (zs its : List Slot) (ok : Stt → Prop) : Prop := ∀ T tv σ H R, Sta B S T σ tv H → (∀ J zv H', zv.length = zs.length → Sta B S' (zs ++ T) σ (zv ++ tv) H' → Wk X B zs zv its ok J → R J H') → tiOf X tg iter σ H R
theorem Sta.drops : ∀ {zs T : List Slot} {σ : St} {zv tv : List V} {H : Hp}, zv.length = zs.length → Sta B S (zs ++ T) σ (zv ++ tv) H → Sta B S T σ tv H
  | [], _, _, [], _, _, _, h => h
  | _ :: zs, _, _, _ :: zv, _, _, e, h => Sta.drops (Nat.succ.inj e) h.drop
  | [], _, _, _ :: _, _, _, e, _ => nomatch e
  | _ :: _, _, _, [], _, _, e, _ => nomatch e
end
end J
namespace J
open PySem L2
open PySem.W (Datum)
section
variable {G H : Hp}
mutual
theorem SlI.def : ∀ {s : Slot} {u : V} {as : List Addr}, SlI G H s u as → ∀ a ∈ as, ∃ o, H a = some o
  | _, _, _, .any, _, h => nomatch h
  | _, _, _, .v, _, h => nomatch h
  | _, _, _, @SlI.val _ _ _ _ _ _ _ _, _, h => nomatch h
  | _, _, _, .own hp hc, a, h => (List.mem_cons.mp h).elim (fun e => ⟨_, e ▸ hp⟩) fun h => CeI.def hc a h
  | _, _, _, .ownA hp hc, a, h => (List.mem_cons.mp h).elim (fun e => ⟨_, e ▸ hp⟩) fun h => CeI.def hc a h
  | _, _, _, .otup _ hs, a, h => SsI.def hs a h
theorem CeI.def : ∀ {c : Cel} {o : HO} {as : List Addr}, CeI G H c o as → ∀ a ∈ as, ∃ o, H a = some o
  | _, _, _, .lst h, a, ha => SsI.def h a ha
  | _, _, _, .ins _ h, a, ha => SsI.def h a ha
  | _, _, _, .dk _ h, a, ha => SsI.def h a ha
  | _, _, _, .fdk h, a, ha => SsI.def h a ha
  | _, _, _, .ex h, a, ha => CeI.def h a ha
theorem SsI.def : ∀ {ss : List Slot} {vs : List V} {as : List Addr}, SsI G H ss vs as → ∀ a ∈ as, ∃ o, H a = some o
  | _, _, _, .nil, _, h => nomatch h
  | _, _, _, .cons h1 h2, a, ha => (List.mem_append.mp ha).elim (fun h => SlI.def h1 a h) fun h => SsI.def h2 a h
end
theorem CsI.def : ∀ {cs : List (Addr × Cel)} {as : List Addr}, CsI G H cs as → ∀ a ∈ as, ∃ o, H a = some o
  | _, _, .nil, _, h => nomatch h
  | _, _, .gone h, a, ha => CsI.def h a ha
  | _, _, .cons hp hc h, a, ha => (List.mem_cons.mp ha).elim (fun e => ⟨_, e ▸ hp⟩) fun ha => (List.mem_append.mp ha).elim (fun h => hc.def a h) fun h' => CsI.def h a h'
theorem CeI.ntO : ∀ {c : Cel} {o : HO} {as : List Addr}, CeI G H c o as → NT o
  | _, _, _, .say _ _ n => n
  | _, _, _, .lst _ => fun _ z => nomatch z
  | _, _, _, .ins _ _ => fun _ z => nomatch z
  | _, _, _, .dk _ _ => fun _ z => nomatch z
  | _, _, _, .fdk _ => fun _ z => nomatch z
  | _, _, _, .ex h => CeI.ntO h
mutual
theorem SlI.nt : ∀ {s : Slot} {u : V} {as : List Addr}, SlI G H s u as → ∀ a ∈ as, ∃ o, H a = some o ∧ NT o
  | _, _, _, .any, _, h => nomatch h
  | _, _, _, .v, _, h => nomatch h
  | _, _, _, @SlI.val _ _ _ _ _ _ _ _, _, h => nomatch h
  | _, _, _, .own hp hc, a, h => (List.mem_cons.mp h).elim (fun e => ⟨_, e ▸ hp, CeI.ntO hc⟩) fun h => CeI.nt hc a h
  | _, _, _, .ownA hp hc, a, h => (List.mem_cons.mp h).elim (fun e => ⟨_, e ▸ hp, CeI.ntO hc⟩) fun h => CeI.nt hc a h
  | _, _, _, .otup _ hs, a, h => SsI.nt hs a h
theorem CeI.nt : ∀ {c : Cel} {o : HO} {as : List Addr}, CeI G H c o as → ∀ a ∈ as, ∃ o, H a = some o ∧ NT o
  | _, _, _, .lst h, a, ha => SsI.nt h a ha
  | _, _, _, .ins _ h, a, ha => SsI.nt h a ha
  | _, _, _, .dk _ h, a, ha => SsI.nt h a ha
  | _, _, _, .fdk h, a, ha => SsI.nt h a ha
  | _, _, _, .ex h, a, ha => CeI.nt h a ha
theorem SsI.nt : ∀ {ss : List Slot} {vs : List V} {as : List Addr}, SsI G H ss vs as → ∀ a ∈ as, ∃ o, H a = some o ∧ NT o
  | _, _, _, .nil, _, h => nomatch h
  | _, _, _, .cons h1 h2, a, ha => (List.mem_append.mp ha).elim (fun h => SlI.nt h1 a h) fun h => SsI.nt h2 a h
end
theorem CsI.nt : ∀ {cs : List (Addr × Cel)} {as : List Addr}, CsI G H cs as → ∀ a ∈ as, ∃ o, H a = some o ∧ NT o
  | _, _, .nil, _, h => nomatch h
  | _, _, .gone h, a, ha => CsI.nt h a ha
  | _, _, .cons hp hc h, a, ha => (List.mem_cons.mp ha).elim (fun e => ⟨_, e ▸ hp, hc.ntO⟩) fun ha => (List.mem_append.mp ha).elim (fun h => hc.nt a h) fun h' => CsI.nt h a h'
theorem SsI.one {s : Slot} {u : V} {as : List Addr} (h : SlI G H s u as) : SsI G H [s] [u] as := by
  have := SsI.cons h .nil
  rwa [List.append_nil] at this
theorem SsI.plain : ∀ {ss : List Slot} {vs : List V} {as : List Addr}, SsI G H ss vs as → (∀ s ∈ ss, s.plain = true) → as = []
  | _, _, _, .nil, _ => rfl
  | _, _, _, .cons h1 h2, h => by rw [h1.nil (h _ List.mem_cons_self), SsI.plain h2 fun s hs => h s (List.mem_cons_of_mem _ hs)]; rfl
theorem SsI.cons_inv {s : Slot} {u : V} {ss : List Slot} {vs : List V} {as : List Addr} (h : SsI G H (s :: ss) (u :: vs) as) : ∃ a1 a2, as = a1 ++ a2 ∧ SlI G H s u a1 ∧ SsI G H ss vs a2 := by
  cases h with
  | @cons _ _ a1 _ _ a2 h1 h2 => exact ⟨a1, a2, rfl, h1, h2⟩
theorem SsI.cons_nil {s : Slot} {u : V} {ss : List Slot} {vs : List V} (h : SsI G H (s :: ss) (u :: vs) []) : SlI G H s u [] ∧ SsI G H ss vs [] := by
  obtain ⟨a1, a2, e, h1, h2⟩ := h.cons_inv
  obtain ⟨rfl, rfl⟩ := List.append_eq_nil_iff.mp e.symm
  exact ⟨h1, h2⟩
theorem SsI.get : ∀ {ss : List Slot} {vs : List V} (i : Nat) {s : Slot}, SsI G H ss vs [] → ss[i]? = some s → ∃ u, vs[i]? = some u ∧ SlI G H s u []
  | [], _, _, _, _, h => by simp at h
  | _ :: _, [], _, _, h, _ => by cases h
  | _ :: _, v :: _, 0, s, h, e => by
    have e1 := Option.some.inj (show some _ = some s from e)
    subst e1
    exact ⟨v, rfl, h.cons_nil.1⟩
  | _ :: ss, v :: vs, i + 1, s, h, e => SsI.get (ss := ss) (vs := vs) i h.cons_nil.2 (show ss[i]? = some s from e)
theorem SsI.of_get : ∀ {ss : List Slot} {vs : List V}, ss.length = vs.length → (∀ (i : Nat) s u, ss[i]? = some s → vs[i]? = some u → SlI G H s u []) → SsI G H ss vs []
  | [], [], _, _ => .nil
  | [], _ :: _, e, _ => nomatch e
  | _ :: _, [], e, _ => nomatch e
  | s :: ss, v :: vs, e, h => .cons (as := []) (h 0 s v rfl rfl) (SsI.of_get (Nat.succ.inj e) fun i s u h1 h2 => h (i + 1) s u h1 h2)
theorem dqAll_ss {α : Type} [DecidableEq α] [Datum α] : ∀ {xs : List α} {vs : List V}, DqAll G vs (xs.map Datum.toD) → SsI G H (xs.map Slot.val) vs []
  | [], _, h => by cases h; exact .nil
  | x :: xs, _, h => by
    cases h with
    | cons h1 h2 => exact .cons (as := []) (.val h1) (dqAll_ss h2)
theorem ss_dqAll {α : Type} [DecidableEq α] [Datum α] : ∀ {xs : List α} {vs : List V} {as : List Addr}, SsI G H (xs.map Slot.val) vs as → DqAll G vs (xs.map Datum.toD)
  | [], _, _, h => by cases h; exact .nil
  | x :: xs, _, _, h => by
    cases h with
    | cons h1 h2 =>
      cases h1 with
      | val h1 => exact .cons h1 (ss_dqAll h2)
end
section
variable {B : Base} {S : Stt} {T : List Slot} {σ : St} {tv : List V} {H G : Hp} {as bs : List Addr} {x : Slot} {v : V}
theorem St0.sta (z : St0 B S T σ tv H G as bs) : Sta B S T σ tv H := ⟨G, as, bs, z⟩
theorem St0.pop (z : St0 B S (x :: T) σ (v :: tv) H G as bs) : ∃ a1 a2, as = a1 ++ a2 ∧ SlI G H x v a1 ∧ St0 B S T σ tv H G a2 bs := by
  obtain ⟨z1, z2, z3, z4, z5, z6, z7, z8, z9⟩ := z
  cases z1 with
  | @cons _ _ a1 _ _ a2 h1 h2 =>
    refine ⟨a1, a2, rfl, h1, h2, z2, z3, ?_, fun a ha => z5 a ?_, z6, z7, z8, z9⟩
    · rw [List.append_assoc] at z4
      exact (List.nodup_append.mp z4).2.1
    · rw [List.append_assoc]
      exact List.mem_append_right _ ha
theorem St0.fresh (z : St0 B S T σ tv H G as bs) {p : Addr} (hp : H p = none) : ∀ a ∈ as ++ bs, a ≠ p := fun a ha e => by
  subst e
  rcases List.mem_append.mp ha with h | h
  · obtain ⟨o, e⟩ := z.tmp.def a h; rw [hp] at e; cases e
  · obtain ⟨o, e⟩ := z.cel.def a h; rw [hp] at e; cases e
theorem ex_none {H H' : Hp} (e : Ex H H') {p : Addr} (h : H' p = none) : H p = none := by
  cases q : H p with
  | none => rfl
  | some o => rw [e p o q] at h; cases h
theorem ex_upd {H H' : Hp} (e : Ex H H') {p : Addr} {o : HO} (h : H p = none) : Ex H (upd H' p o) := fun a u ha => by rw [upd_ne (ne_of_none ha h)]; exact e a u ha
/-- the heap has one more thing, that nobody owns yet -/
theorem St0.grown (z : St0 B S T σ tv H G as bs) {p : Addr} {o : HO} (hp : H p = none) : St0 B S T σ tv (upd H p o) G as bs :=
  ⟨z.tmp.mono (Ex.refl G) fun a ha => upd_ne (z.fresh hp a (List.mem_append_left _ ha)), z.cel.mono (Ex.refl G) fun a ha => upd_ne (z.fresh hp a (List.mem_append_right _ ha)), z.slo, z.nod, z.fre, z.gro, z.new, ex_upd z.sub (ex_none z.sub hp), ex_upd z.frm (ex_none z.frm hp)⟩
/-- a new thing, owned -/
theorem St0.newO (z : St0 B S T σ tv H G as bs) {p : Addr} {o : HO} {c : Cel} (hp : H p = none) (hc : CeI G (upd H p o) c o []) : Sta B S (.own c :: T) σ (.ref p :: tv) (upd H p o) := by
  obtain ⟨z1, z2, z3, z4, z5, z6, z7, z8, z9⟩ := z.grown (o := o) hp
  refine ⟨G, (p :: []) ++ as, bs, .cons (.own upd_same hc) z1, z2, z3, List.nodup_cons.mpr ⟨fun h => z.fresh hp p h rfl, z4⟩, fun a ha => ?_, z6, z7, z8, z9⟩
  rcases List.mem_cons.mp ha with e | ha
  · subst e
    exact ⟨ex_none z.sub hp, ex_none z.frm hp⟩
  · exact z5 a ha
/-- a new thing, for good -/
theorem St0.newG (z : St0 B S T σ tv H G as bs) {p : Addr} {o : HO} (hp : H p = none) (hx : SlI (upd G p o) (upd H p o) x (.ref p) []) : Sta B S (x :: T) σ (.ref p :: tv) (upd H p o) := by
  have hg : G p = none := ex_none z.sub hp
  have eg : Ex G (upd G p o) := ex_upd (Ex.refl G) hg
  refine ⟨upd G p o, [] ++ as, bs, .cons hx (z.tmp.mono eg fun a ha => upd_ne (z.fresh hp a (List.mem_append_left _ ha))), z.cel.mono eg fun a ha => upd_ne (z.fresh hp a (List.mem_append_right _ ha)), z.slo.mono eg, z.nod, fun a ha => ?_, z.gro.trans eg, fun a u ha => ?_, fun a u ha => ?_, ex_upd z.frm (ex_none z.frm hp)⟩
  · rw [upd_ne (z.fresh hp a ha)]
    exact z.fre a ha
  · by_cases e : a = p
    · subst e
      exact .inr (.inl (ex_none z.frm hp))
    · rw [upd_ne e] at ha
      exact z.new a u ha
  · by_cases e : a = p
    · subst e
      rw [upd_same] at ha ⊢
      exact ha
    · rw [upd_ne e] at ha ⊢
      exact z.sub a u ha
end
section
mutual
inductive FzS : Slot → PyData → Prop where
  | val {α : Type} [DecidableEq α] [Datum α] {x : α} : FzS (.val x) (Datum.toD x)
  | non : FzS (.v .non) .none
  | own {c : Cel} {d : PyData} : FzC c d → FzS (.own c) d
inductive FzC : Cel → PyData → Prop where
  | lst {ss : List Slot} {ds : List PyData} : FzA ss ds → FzC (.lst ss) (.list ds)
inductive FzA : List Slot → List PyData → Prop where
  | nil : FzA [] []
  | cons {s : Slot} {d : PyData} {ss : List Slot} {ds : List PyData} : FzS s d → FzA ss ds → FzA (s :: ss) (d :: ds)
end
theorem fz_map {α : Type} [DecidableEq α] [Datum α] : ∀ xs : List α, FzA (xs.map Slot.val) (xs.map Datum.toD)
  | [] => .nil
  | _ :: xs => .cons .val (fz_map xs)
theorem fz_val {α : Type} [DecidableEq α] [Datum α] (xs : List α) : FzC (.lst (xs.map Slot.val)) (Datum.toD xs) := .lst (fz_map xs)
variable {G G' H : Hp}
mutual
theorem FzS.dq : ∀ {s : Slot} {d : PyData} {u : V} {as : List Addr}, FzS s d → SlI G H s u as → Ex G G' → (∀ a ∈ as, G' a = H a) → Dq G' u d
  | _, _, _, _, @FzS.val α i1 i2 x, h, e, _ => by cases h with | val h => exact dq_mono e h
  | _, _, _, _, .non, .v, _, _ => .non
  | _, _, _, _, .own h, .own hp hc, e, f => FzC.dq h hc ((f _ List.mem_cons_self).trans hp) e fun a ha => f a (List.mem_cons_of_mem _ ha)
theorem FzC.dq : ∀ {c : Cel} {d : PyData} {p : Addr} {o : HO} {as : List Addr}, FzC c d → CeI G H c o as → G' p = some o → Ex G G' → (∀ a ∈ as, G' a = H a) → Dq G' (.ref p) d
  | _, _, _, _, _, .lst h, .lst hs, hp, e, f => .lst hp (FzA.dq h hs e f)
theorem FzA.dq : ∀ {ss : List Slot} {ds : List PyData} {vs : List V} {as : List Addr}, FzA ss ds → SsI G H ss vs as → Ex G G' → (∀ a ∈ as, G' a = H a) → DqAll G' vs ds
  | _, _, _, _, .nil, .nil, _, _ => .nil
  | _, _, _, _, .cons h1 h2, .cons s1 s2, e, f => .cons (FzS.dq h1 s1 e fun a ha => f a (List.mem_append_left _ ha)) (FzA.dq h2 s2 e fun a ha => f a (List.mem_append_right _ ha))
end
end
section
variable {B : Base} {S : Stt} {T : List Slot} {σ : St} {tv : List V} {H G : Hp} {as bs : List Addr} {x : Slot} {v : V}
/-- the addresses fs are said for good -/
theorem St0.froz (z : St0 B S T σ tv H G as bs) (fs : List Addr) (hf : ∀ a ∈ fs, G a = none ∧ B.F a = none ∧ ∃ o, H a = some o) (hn : ∀ a ∈ as ++ bs, a ∉ fs) : ∃ G', Ex G G' ∧ (∀ a ∈ fs, G' a = H a) ∧ St0 B S T σ tv H G' as bs := by
  refine ⟨fun a => if a ∈ fs then H a else G a, fun a o ha => ?_, fun a ha => if_pos ha, ?_⟩
  · have : a ∉ fs := fun h => by rw [(hf a h).1] at ha; cases ha
    show (if a ∈ fs then H a else G a) = some o
    rw [if_neg this]; exact ha
  · have eg : Ex G (fun a => if a ∈ fs then H a else G a) := fun a o ha => by
      have : a ∉ fs := fun h => by rw [(hf a h).1] at ha; cases ha
      show (if a ∈ fs then H a else G a) = some o
      rw [if_neg this]; exact ha
    refine ⟨z.tmp.mono eg fun _ _ => rfl, z.cel.mono eg fun _ _ => rfl, z.slo.mono eg, z.nod, fun a ha => ⟨?_, (z.fre a ha).2⟩, z.gro.trans eg, fun a o ha => ?_, fun a o ha => ?_, z.frm⟩
    · show (if a ∈ fs then H a else G a) = none
      rw [if_neg (hn a ha)]; exact (z.fre a ha).1
    · by_cases h : a ∈ fs
      · exact .inr (.inl (hf a h).2.1)
      · have ha' : (if a ∈ fs then H a else G a) = some o := ha
        rw [if_neg h] at ha'; exact z.new a o ha'
    · have ha' : (if a ∈ fs then H a else G a) = some o := ha
      by_cases h : a ∈ fs
      · rw [if_pos h] at ha'; exact ha'
      · rw [if_neg h] at ha'; exact z.sub a o ha'
/-- a temporary thing that is data, for good -/
theorem Sta.frz {d : PyData} (f : FzS x d) (h : Sta B S (x :: T) σ (v :: tv) H) {y : Slot} (hy : ∀ G, Dq G v d → SlI G H y v []) : Sta B S (y :: T) σ (v :: tv) H := by
  obtain ⟨G, as, bs, z⟩ := h
  obtain ⟨a1, a2, rfl, h1, z'⟩ := z.pop
  obtain ⟨G', e, g, z2⟩ := z'.froz a1 (fun a ha => ⟨(z.fre a (by simp [ha])).1, (z.fre a (by simp [ha])).2, h1.def a ha⟩) (fun a ha hb => by
    have nd := z.nod
    rw [List.append_assoc] at nd
    exact (List.nodup_append.mp nd).2.2 a hb a ha rfl)
  exact ⟨G', [] ++ a2, bs, .cons (hy G' (f.dq h1 e g)) z2.tmp, z2.cel, z2.slo, z2.nod, z2.fre, z2.gro, z2.new, z2.sub, z2.frm⟩
end
section
variable {X : Cx} {B : Base} {S S1 S2 S3 : Stt} {x y z : Slot} {a b e : Expr} {es : List Expr} {pos : Pos} {D : FE} {rest : List Stmt}
theorem je_frz {α : Type} [DecidableEq α] [Datum α] {t : α} (h : JE X B S e S1 x) (f : FzS x (Datum.toD t)) : JE X B S e S1 (.val t) := fun T tv σ H Q hs q => h _ _ _ _ _ hs fun v H' g => q v H' (g.frz f fun G d => .val d)
theorem je_frL {α : Type} [DecidableEq α] [Datum α] {xs : List α} (h : JE X B S e S1 (.own (.lst (xs.map Slot.val)))) : JE X B S e S1 (.val xs) := je_frz h (.own (fz_val xs))
def SlD (x : Slot) (d : PyData) : Prop := ∀ {G H u as}, SlI G H x u as → Dq G u d
theorem sld_val {α : Type} [DecidableEq α] [Datum α] {t : α} : SlD (.val t) (Datum.toD t) := fun h => by cases h with | val h => exact h
inductive SlDs : List Slot → List PyData → Prop where
  | nil : SlDs [] []
  | cons {s : Slot} {d : PyData} {ss : List Slot} {ds : List PyData} : SlD s d → SlDs ss ds → SlDs (s :: ss) (d :: ds)
theorem SlDs.all : ∀ {ss : List Slot} {ds : List PyData} {G H : Hp} {vs : List V} {as : List Addr}, SlDs ss ds → SsI G H ss vs as → DqAll G vs ds
  | _, _, _, _, _, _, .nil, .nil => .nil
  | _, _, _, _, _, _, .cons h1 h2, .cons s1 s2 => .cons (h1 s1) (h2.all s2)
theorem St0.split {B : Base} {S : Stt} {xs T : List Slot} {σ : St} {vs tv : List V} {H G : Hp} {as bs : List Addr} (z : St0 B S (xs ++ T) σ (vs ++ tv) H G as bs) (hl : xs.length = vs.length) : ∃ a1 a2, as = a1 ++ a2 ∧ SsI G H xs vs a1 ∧ St0 B S T σ tv H G a2 bs := by
  obtain ⟨z1, z2, z3, z4, z5, z6, z7, z8, z9⟩ := z
  obtain ⟨a1, a2, rfl, h1, h2⟩ := SsI.split hl z1
  refine ⟨a1, a2, rfl, h1, h2, z2, z3, ?_, fun a ha => z5 a ?_, z6, z7, z8, z9⟩
  · rw [List.append_assoc] at z4
    exact (List.nodup_append.mp z4).2.1
  · rw [List.append_assoc]
    exact List.mem_append_right _ ha
/-- a written tuple -/
theorem je_tup {α : Type} [DecidableEq α] [Datum α] {t : α} {xs : List Slot} {ds : List PyData} {k : Nat} (ha : JA X B S es S1 xs) (hd : SlDs xs ds) (ht : Datum.toD t = .tuple ds) (hl : xs.length ≤ 1000) : JE X B S (.Tuple es k pos) S1 (.val t) := fun T tv σ H Q hs q =>
  pe1 (pe_tup pa0) (ha _ _ _ _ _ hs fun vs H1 he h1 => ⟨Nat.le_trans (Nat.le_of_eq he) (Nat.le_trans hl (by decide)), fun p hp => by
    obtain ⟨G, as, bs, z⟩ := h1
    obtain ⟨a1, a2, rfl, g1, z'⟩ := z.split he.symm
    refine q _ _ (z'.newG hp (.val ?_))
    rw [ht]
    exact .tup upd_same (dqAll_mono (ex_upd (Ex.refl G) (ex_none z'.sub hp)) (hd.all g1))⟩)
/-- a written list -/
theorem je_lst {xs : List Slot} (ha : JA X B S es S1 xs) (hl : xs.length ≤ 1000) : JE X B S (.List es pos) S1 (.own (.lst xs)) := fun T tv σ H Q hs q =>
  pe1 (pe_lst pa0) (ha _ _ _ _ _ hs fun vs H1 he h1 => ⟨Nat.le_trans (Nat.le_of_eq he) (Nat.le_trans hl (by decide)), fun p hp => by
    obtain ⟨G, as, bs, z⟩ := h1
    obtain ⟨z1, z2, z3, z4, z5, z6, z7, z8, z9⟩ := z.grown (o := .lst vs) hp
    obtain ⟨a1, a2, rfl, g1, g2⟩ := SsI.split he.symm z1
    refine q _ _ ⟨G, (p :: a1) ++ a2, bs, .cons (.own upd_same (.lst g1)) g2, z2, z3, List.nodup_cons.mpr ⟨fun h => z.fresh hp p h rfl, z4⟩, fun a ha => ?_, z6, z7, z8, z9⟩
    rcases List.mem_cons.mp ha with e | ha
    · subst e
      exact ⟨ex_none z.sub hp, ex_none z.frm hp⟩
    · exact z5 a ha⟩)
end
end J
namespace J
universe u w
open PySem L2
open PySem.W (Datum)
def gx {α : Type u} (xs : List α) (i : Int) : Option α := if 0 ≤ i then xs[i.toNat]? else if -(xs.length : Int) ≤ i then xs[(i + xs.length).toNat]? else none
/-- the place that an index means -/
def ixp (n : Nat) (i : Int) : Option Nat := if 0 ≤ i then (if i < n then some i.toNat else none) else if -(n : Int) ≤ i then some (i + n).toNat else none
def sx (n d : Nat) : Option Int → Nat
  | none => d
  | some v => if v < 0 then (v + (n : Int)).toNat else min v.toNat n
def slc {α : Type u} (xs : List α) (lo hi : Option Int) : List α := (xs.drop (sx xs.length 0 lo)).take (sx xs.length xs.length hi - sx xs.length 0 lo)
def psh {α : Type u} (xs : List α) (x : α) : Option (List α) := if xs.length < 16777216 then some (xs ++ [x]) else none
def stx {α : Type u} (xs : List α) (i : Int) (x : α) : Option (List α) := (ixp xs.length i).bind fun j => some (xs.set j x)
theorem sx_eq (n d : Nat) (o : Option Int) : sx n d o = HT.sIx n d o := by cases o <;> rfl
theorem atI_gx {α : Type} (xs : List α) (i : Int) : atI xs i = gx xs i := by
  unfold atI ixN gx
  by_cases h : 0 ≤ i
  · rw [if_pos h, if_pos h]
    by_cases h2 : i < xs.length
    · rw [if_pos h2]; rfl
    · rw [if_neg h2, List.getElem?_eq_none (by omega)]; rfl
  · rw [if_neg h, if_neg h]
    by_cases h2 : -(xs.length : Int) ≤ i
    · rw [if_pos h2, if_pos h2]; rfl
    · rw [if_neg h2, if_neg h2]; rfl
theorem gx_ixp {α : Type u} (xs : List α) (i : Int) : gx xs i = (ixp xs.length i).bind fun j => xs[j]? := by
  unfold ixp gx
  by_cases h : 0 ≤ i
  · rw [if_pos h, if_pos h]
    by_cases h2 : i < xs.length
    · rw [if_pos h2]; rfl
    · rw [if_neg h2, List.getElem?_eq_none (by omega)]; rfl
  · rw [if_neg h, if_neg h]
    by_cases h2 : -(xs.length : Int) ≤ i
    · rw [if_pos h2, if_pos h2]; rfl
    · rw [if_neg h2, if_neg h2]; rfl
theorem gx_map {α : Type u} {β : Type w} (f : α → β) (xs : List α) (i : Int) : gx (xs.map f) i = (gx xs i).map f := by
  unfold gx
  rw [List.length_map]
  by_cases h : 0 ≤ i
  · rw [if_pos h, if_pos h, List.getElem?_map]
  · rw [if_neg h, if_neg h]
    by_cases h2 : -(xs.length : Int) ≤ i
    · rw [if_pos h2, if_pos h2, List.getElem?_map]
    · rw [if_neg h2, if_neg h2]; rfl
theorem slc_map {α : Type u} {β : Type w} (f : α → β) (xs : List α) (lo hi : Option Int) : slc (xs.map f) lo hi = (slc xs lo hi).map f := by
  unfold slc
  rw [List.length_map, List.map_take, List.map_drop]
theorem psh_some {α : Type u} {xs : List α} {x : α} {ys : List α} (h : psh xs x = some ys) : xs.length < 16777216 ∧ ys = xs ++ [x] := by
  unfold psh at h
  split at h
  · exact ⟨by assumption, (Option.some.inj h).symm⟩
  · cases h
section
variable {G H : Hp}
def Lv (K : PySem.W.Frag) (B : Base) (S : Stt) (x : Slot) (ss : List Slot) : Prop := ∀ {T σ v tv H G as bs}, St0 B S (x :: T) σ (v :: tv) H G as bs → ∃ a vs, v = .ref a ∧ SqL K H a vs ∧ SsI G H ss vs []
variable {K : PySem.W.Frag} {B : Base} {S : Stt}
theorem lv_val {α : Type} [DecidableEq α] [Datum α] {xs : List α} : Lv K B S (.val xs) (xs.map Slot.val) := fun z => by
  obtain ⟨a1, a2, _, h, z'⟩ := z.pop
  cases h with
  | val h =>
    generalize hd : Datum.toD xs = d at h
    have e : d = .list (xs.map Datum.toD) := hd.symm
    subst e
    cases h with
    | lst hp ha => exact ⟨_, _, rfl, .of (z.sub _ _ hp), dqAll_ss ha⟩
theorem lv_own {ss : List Slot} (hp : ∀ s ∈ ss, s.plain = true) : Lv K B S (.own (.lst ss)) ss := fun z => by
  obtain ⟨a1, a2, _, h, z'⟩ := z.pop
  cases h with
  | own hp' hc =>
    cases hc with
    | lst hs => exact ⟨_, _, rfl, .of hp', hs.plain hp ▸ hs⟩
theorem plain_map {α : Type} [DecidableEq α] [Datum α] (xs : List α) : ∀ s ∈ xs.map Slot.val, s.plain = true := fun s hs => by
  obtain ⟨x, _, rfl⟩ := List.mem_map.mp hs
  rfl
theorem lv_own' {α : Type} [DecidableEq α] [Datum α] {xs : List α} : Lv K B S (.own (.lst (xs.map Slot.val))) (xs.map Slot.val) := lv_own (plain_map xs)
theorem lv_cell (k : Nat) {p : Addr} {ss : List Slot} (hk : S.cs[k]? = some (p, .lst ss)) (hp : ∀ s ∈ ss, s.plain = true) : Lv K B S (.v (.ref p)) ss := fun z => by
  obtain ⟨a1, a2, _, h, z'⟩ := z.pop
  cases h with
  | v =>
    obtain ⟨l, o, m, r, _, hp', hc, _⟩ := z.cel.at k hk (by intro e; cases e)
    cases hc with
    | lst hs => exact ⟨_, _, rfl, .of hp', hs.plain hp ▸ hs⟩
theorem lv_cell' {α : Type} [DecidableEq α] [Datum α] (k : Nat) {p : Addr} {xs : List α} (hk : S.cs[k]? = some (p, .lst (xs.map Slot.val))) : Lv K B S (.v (.ref p)) (xs.map Slot.val) := lv_cell k hk (plain_map xs)
/-- the script, and what else is known ahead -/
theorem lv_pre {p : Addr} {ns : List Int} (h : SqL K B.G p (ns.map V.int)) : Lv K B S (.v (.ref p)) (ns.map Slot.val) := fun z => by
  obtain ⟨a1, a2, _, h', z'⟩ := z.pop
  cases h' with
  | v =>
    refine ⟨_, _, rfl, h.imp (fun r => r.imp (fun q => z.sub _ _ (z.gro _ _ q)) fun ⟨o, q⟩ => ⟨o, z.sub _ _ (z.gro _ _ q)⟩) id, ?_⟩
    exact SsI.of_get (by simp) fun i s u h1 h2 => by
      rw [List.getElem?_map] at h1 h2
      cases q : ns[i]? with
      | none => rw [q] at h1; cases h1
      | some n =>
        rw [q] at h1 h2
        cases h1
        cases h2
        exact .val (.int n)
end
section
variable {X : Cx} {B : Base} {S S1 S2 S3 : Stt} {x y z : Slot} {a b e : Expr} {es : List Expr} {pos : Pos} {D : FE} {rest : List Stmt} {ss : List Slot}
def OC (B : Base) (r : List V → Hp → VK → Prop) (S : Stt) (xs : List Slot) (S' : Stt) (z : Slot) : Prop := ∀ T tv σ vs H Q, vs.length = xs.length → Sta B S (xs ++ T) σ (vs ++ tv) H → (∀ w H', Sta B S' (z :: T) σ (w :: tv) H' → Q w H') → r vs H Q
theorem je_callB {r : List V → Hp → VK → Prop} {id : String} {n : Str} {p : Pos} {xs : List Slot} (hc : CallR X (.builtin id) r) (hm : X.mg n = none) (hv : bootBuiltins n = some (.builtin id)) (ha : JA X B S (e :: es) S1 xs) (hr : OC B r S1 xs S2 z) (hg : Gl X n := by rfl) (hn : n ≠ "__name__" := by decide) (hdb : (n == ("__debug__" : Str)) = false := by decide)
    (he : starEach (e :: es) X.env = (false, eval e X.env) :: starEach es X.env := by rfl) (hpl : (backTo pos (starEach es X.env)).any (·.1) = false := by rfl) : JE X B S (.Call (.Name n p) (e :: es) [] pos) S2 z := fun T tv σ H Q hs q =>
  pe1 (pe_callB hc hg hm hv pa0 hn hdb he hpl) (ha _ _ _ _ _ hs fun vs H1 hl h1 => hr _ _ _ _ _ _ hl h1 q)
theorem je_callT {r : List V → Hp → VK → Prop} {id : String} {n : Str} {p : Pos} {xs : List Slot} (hc : CallR X (.type id) r) (hm : X.mg n = none) (hv : bootBuiltins n = some (.type id)) (ha : JA X B S (e :: es) S1 xs) (hr : OC B r S1 xs S2 z) (hg : Gl X n := by rfl) (hn : n ≠ "__name__" := by decide) (hdb : (n == ("__debug__" : Str)) = false := by decide)
    (he : starEach (e :: es) X.env = (false, eval e X.env) :: starEach es X.env := by rfl) (hpl : (backTo pos (starEach es X.env)).any (·.1) = false := by rfl) : JE X B S (.Call (.Name n p) (e :: es) [] pos) S2 z := fun T tv σ H Q hs q =>
  pe1 (pe_callTy hc hg hm hv pa0 hn hdb he hpl) (ha _ _ _ _ _ hs fun vs H1 hl h1 => hr _ _ _ _ _ _ hl h1 q)
theorem oc1 {r : List V → Hp → VK → Prop} (h : ∀ T tv σ v H Q, Sta B S (x :: T) σ (v :: tv) H → (∀ w H', Sta B S2 (z :: T) σ (w :: tv) H' → Q w H') → r [v] H Q) : OC B r S [x] S2 z := fun T tv σ vs H Q hl hs q => match vs, hl with
  | [v], _ => h T tv σ v H Q hs q
theorem oc2 {r : List V → Hp → VK → Prop} (h : ∀ T tv σ v u H Q, Sta B S (x :: y :: T) σ (v :: u :: tv) H → (∀ w H', Sta B S2 (z :: T) σ (w :: tv) H' → Q w H') → r [v, u] H Q) : OC B r S [x, y] S2 z := fun T tv σ vs H Q hl hs q => match vs, hl with
  | [v, u], _ => h T tv σ v u H Q hs q
theorem je_len {n : Str} {p : Pos} {α : Type} [DecidableEq α] [Datum α] {xs : List α} (hm : X.mg "len" = none) (ha : JE X B S e S1 x) (hl : Lv X.K B S1 x (xs.map Slot.val)) (hg : Gl X "len" := by rfl) (hst : starEach [e] X.env = (false, eval e X.env) :: starEach [] X.env := by rfl) : JE X B S (.Call (.Name "len" p) [e] [] pos) S1 (.val (xs.length : Int)) :=
  je_callB call_len_seq hm boot_len (ja_cons ha ja_nil hst) (oc1 fun T tv σ v H Q hs q => by
    obtain ⟨G, as, bs, z⟩ := id hs
    obtain ⟨a, vs, rfl, hr, hss⟩ := hl z
    refine ⟨a, vs, rfl, .inl hr, ?_⟩
    have := hss.len
    rw [List.length_map] at this
    rw [← this]
    exact q _ _ (hs.drop.push fun _ _ => sl_int _)) hg (by decide) (by decide) hst
theorem je_min2 {p : Pos} {i j : Int} (hm : X.mg "min" = none) (ha : JE X B S a S1 (.val i)) (hb : JE X B S1 b S2 (.val j)) (hc : X.calm = true := by rfl) (hg : Gl X "min" := by rfl) (hst : starEach [a, b] X.env = (false, eval a X.env) :: starEach [b] X.env := by rfl) (hst2 : starEach [b] X.env = (false, eval b X.env) :: starEach [] X.env := by rfl) (hpl : (backTo pos (starEach [b] X.env)).any (·.1) = false := by rfl) : JE X B S (.Call (.Name "min" p) [a, b] [] pos) S2 (.val (if j < i then j else i)) :=
  je_callB (call_min2 hc) hm PyProof.Rows.boot_min (ja_cons ha (ja_cons hb ja_nil hst2) hst) (oc2 fun T tv σ v u H Q hs q => by
    have e := hs.int
    have e2 := hs.drop.int
    subst e e2
    exact ⟨i, j, rfl, q _ _ (hs.drop.drop.push fun _ _ => sl_int _)⟩) hg (by decide) (by decide) hst hpl
theorem je_max2 {p : Pos} {i j : Int} (hm : X.mg "max" = none) (ha : JE X B S a S1 (.val i)) (hb : JE X B S1 b S2 (.val j)) (hc : X.calm = true := by rfl) (hg : Gl X "max" := by rfl) (hst : starEach [a, b] X.env = (false, eval a X.env) :: starEach [b] X.env := by rfl) (hst2 : starEach [b] X.env = (false, eval b X.env) :: starEach [] X.env := by rfl) (hpl : (backTo pos (starEach [b] X.env)).any (·.1) = false := by rfl) : JE X B S (.Call (.Name "max" p) [a, b] [] pos) S2 (.val (if j > i then j else i)) :=
  je_callB (call_max2 hc) hm PyProof.Rows.boot_max (ja_cons ha (ja_cons hb ja_nil hst2) hst) (oc2 fun T tv σ v u H Q hs q => by
    have e := hs.int
    have e2 := hs.drop.int
    subst e e2
    exact ⟨i, j, rfl, q _ _ (hs.drop.drop.push fun _ _ => sl_int _)⟩) hg (by decide) (by decide) hst hpl
theorem je_sum {p : Pos} {xs : List Int} (hm : X.mg "sum" = none) (ha : JE X B S e S1 x) (hl : Lv X.K B S1 x (xs.map Slot.val)) (hc : X.calm = true := by rfl) (hg : Gl X "sum" := by rfl) (hst : starEach [e] X.env = (false, eval e X.env) :: starEach [] X.env := by rfl) : JE X B S (.Call (.Name "sum" p) [e] [] pos) S1 (.val xs.sum) :=
  je_callB (cr_sum hc) hm PyProof.Rows.boot_sum (ja_cons ha ja_nil hst) (oc1 fun T tv σ v H Q hs q => by
    obtain ⟨G, as, bs, z⟩ := id hs
    obtain ⟨a, vs, rfl, hr, hss⟩ := hl z
    have e : vs = xs.map V.int := by
      clear hl hs z hr q
      revert hss
      induction xs generalizing vs with
      | nil => intro hss; cases hss; rfl
      | cons n ns ih =>
        intro hss
        cases vs with
        | nil => cases hss
        | cons v vs =>
          obtain ⟨h1, h2⟩ := hss.cons_nil
          rw [ih vs h2]
          cases h1 with
          | val h => cases (show Dq G v (.int n) from h); rfl
    subst e
    exact ⟨a, xs, rfl, hr, q _ _ (hs.drop.push fun _ _ => sl_int _)⟩) hg (by decide) (by decide) hst
theorem je_ix {s : Slot} {i : Int} (ha : JE X B S a S1 x) (hb : JE X B S1 b S2 (.val i)) (hl : Lv X.K B S2 x ss) (hi : gx ss i = some s) (hs : PlainIx b := by exact fun _ _ => rfl) : JE X B S (.Subscript a b pos) S2 s := fun T tv σ H Q h q =>
  pe1 (pe_ix ix_list pe0 pe0 hs) (ha _ _ _ _ _ h fun v H1 h1 => hb _ _ _ _ _ h1 fun u H2 h2 => by
    have e := h2.int
    subst e
    have h3 := h2.drop
    obtain ⟨G, as, bs, z⟩ := id h3
    obtain ⟨p, vs, rfl, hr, hss⟩ := hl z
    obtain ⟨a1, a2, rfl, _, z'⟩ := z.pop
    rw [gx_ixp] at hi
    cases hj : ixp ss.length i with
    | none => rw [hj] at hi; cases hi
    | some j =>
      rw [hj] at hi
      obtain ⟨w, hw, sw⟩ := hss.get j hi
      refine ⟨p, vs, i, w, rfl, rfl, hr, ?_, q w H2 ⟨G, [] ++ a2, bs, .cons sw z'.tmp, z'.cel, z'.slo, z'.nod, z'.fre, z'.gro, z'.new, z'.sub, z'.frm⟩⟩
      rw [atI_gx, gx_ixp, ← hss.len, hj]
      exact hw)
theorem je_ixv {α : Type} [DecidableEq α] [Datum α] {xs : List α} {t : α} {i : Int} (ha : JE X B S a S1 x) (hb : JE X B S1 b S2 (.val i)) (hl : Lv X.K B S2 x (xs.map Slot.val)) (hi : gx xs i = some t) (hs : PlainIx b := by exact fun _ _ => rfl) : JE X B S (.Subscript a b pos) S2 (.val t) :=
  je_ix ha hb hl (by rw [gx_map, hi]; rfl) hs
/-- a slice's part -/
def JO (X : Cx) (B : Base) (S : Stt) (e : Option Expr) (S' : Stt) (o : Option Int) : Prop := ∀ T tv σ H (Q : Option Int → Hp → Prop), Sta B S T σ tv H → (∀ H', Sta B S' T σ tv H' → Q o H') → ∃ t, PO X e t ∧ t σ H Q
def toOf (X : Cx) (e : Option Expr) : TO := fun σ H Q => ∃ t, PO X e t ∧ t σ H Q
theorem po0 {o : Option Expr} : PO X o (toOf X o) := ⟨fun pins s σ H Q I ⟨_, hp, h⟩ => hp.run pins s σ H Q I h⟩
theorem jo_none : JO X B S none S none := fun T tv σ H Q hs q => ⟨_, po_none, q H hs⟩
theorem jo_some {i : Int} (h : JE X B S e S1 (.val i)) : JO X B S (some e) S1 (some i) := fun T tv σ H Q hs q => ⟨_, po_some pe0, h _ _ _ _ _ hs fun v H' g => by
  have e := g.int
  subst e
  exact ⟨i, rfl, q _ g.drop⟩⟩
theorem cutV_slc (vs : List V) (lo hi : Option Int) : cutV vs lo hi = slc vs lo hi := by unfold cutV slc; rw [sx_eq, sx_eq]
theorem slc_get {α : Type u} {β : Type w} (f : α → β → Prop) {xs : List α} {ys : List β} (lo hi : Option Int) (hl : xs.length = ys.length) (h : ∀ (i : Nat) s u, xs[i]? = some s → ys[i]? = some u → f s u) : ∀ (i : Nat) s u, (slc xs lo hi)[i]? = some s → (slc ys lo hi)[i]? = some u → f s u := fun i s u h1 h2 => by
  unfold slc at h1 h2
  rw [hl] at h1
  rw [List.getElem?_take] at h1 h2
  split at h1
  · rw [if_pos (by assumption)] at h2
    rw [List.getElem?_drop] at h1 h2
    exact h _ _ _ h1 h2
  · cases h1
theorem slc_len {α : Type u} {β : Type w} {xs : List α} {ys : List β} (lo hi : Option Int) (hl : xs.length = ys.length) : (slc xs lo hi).length = (slc ys lo hi).length := by
  unfold slc
  rw [List.length_take, List.length_take, List.length_drop, List.length_drop, hl]
theorem je_slc {lo hi : Option Expr} {l h : Option Int} {p2 : Pos} (ha : JE X B S a S1 x) (hlo : JO X B S1 lo S2 l) (hhi : JO X B S2 hi S3 h) (hl : Lv X.K B S3 x ss) : JE X B S (.Subscript a (.Slice lo hi none p2) pos) S3 (.own (.lst (slc ss l h))) := fun T tv σ H Q g q =>
  pe1 (pe_slice sl_list pe0 po0 po0) (ha _ _ _ _ _ g fun v H1 h1 => hlo _ _ _ _ _ h1 fun H2 h2 => hhi _ _ _ _ _ h2 fun H3 h3 => by
    obtain ⟨G, as, bs, z⟩ := h3
    obtain ⟨p, vs, rfl, hr, hss⟩ := hl z
    obtain ⟨a1, a2, rfl, _, z'⟩ := z.pop
    refine ⟨p, vs, rfl, hr, fun q' hq => ?_⟩
    refine q _ _ (z'.newO hq ?_)
    rw [cutV_slc]
    have cut : SsI G H3 (slc ss l h) (slc vs l h) [] := SsI.of_get (slc_len l h hss.len) (slc_get (fun s u => SlI G H3 s u []) l h hss.len fun i s u h1 h2 => by
      obtain ⟨u', e1, e2⟩ := hss.get i h1
      rw [h2] at e1
      cases e1
      exact e2)
    exact .lst (cut.mono (Ex.refl G) fun _ h => nomatch h))
theorem je_slcv {α : Type} [DecidableEq α] [Datum α] {xs : List α} {lo hi : Option Expr} {l h : Option Int} {p2 : Pos} (ha : JE X B S a S1 x) (hlo : JO X B S1 lo S2 l) (hhi : JO X B S2 hi S3 h) (hl : Lv X.K B S3 x (xs.map Slot.val)) : JE X B S (.Subscript a (.Slice lo hi none p2) pos) S3 (.own (.lst ((slc xs l h).map Slot.val))) :=
  slc_map Slot.val xs l h ▸ je_slc ha hlo hhi hl
end
end J
namespace J
universe u w
open PySem L2
open PySem.W (Datum)
section
variable {B : Base} {S : Stt} {T : List Slot} {σ : St} {tv : List V} {H G : Hp} {as bs : List Addr} {x : Slot} {v : V}
/-- the thing of the k-th cell, and what may be written in its place: less, or as much, owned -/
theorem St0.cellW (z : St0 B S T σ tv H G as bs) {k : Nat} {p : Addr} {c : Cel} (hk : S.cs[k]? = some (p, c)) (hg : c ≠ .gone) :
    ∃ o m, H p = some o ∧ CeI G H c o m ∧ G p = none ∧ (∀ a ∈ m, a ≠ p) ∧ (∀ a ∈ as, a ≠ p) ∧ ∀ {c' : Cel} {o' : HO} {m' : List Addr}, CeI G (upd H p o') c' o' m' → m'.Sublist m → ∃ bs', St0 B ⟨S.sl, S.cs.set k (p, c')⟩ T σ tv (upd H p o') G as bs' := by
  obtain ⟨l, o, m, r, rfl, hp, hc, reb⟩ := z.cel.at k hk hg
  have nd := z.nod
  have pm : (as ++ (l ++ (p :: m) ++ r)).Perm (p :: (m ++ ((as ++ l) ++ r))) := by
    have e1 : (l ++ (p :: m) ++ r).Perm ((p :: m) ++ (l ++ r)) := by
      rw [List.append_assoc]
      exact (List.perm_append_comm (l₁ := l)).trans (by rw [List.append_assoc]; exact List.Perm.append_left _ List.perm_append_comm)
    have e2 : (as ++ ((p :: m) ++ (l ++ r))).Perm ((p :: m) ++ (as ++ (l ++ r))) := by
      rw [← List.append_assoc, ← List.append_assoc (p :: m)]
      exact List.Perm.append_right _ List.perm_append_comm
    have e3 := (List.Perm.append_left as e1).trans e2
    rw [← List.append_assoc as l r] at e3
    exact e3
  have nd2 := pm.nodup_iff.mp nd
  have nd3 := List.nodup_cons.mp nd2
  have hpm : ∀ a ∈ m, a ≠ p := fun a ha e => nd3.1 (by rw [← e]; exact List.mem_append_left _ ha)
  have hpa : ∀ a ∈ as, a ≠ p := fun a ha e => nd3.1 (by rw [← e]; exact List.mem_append_right _ (List.mem_append_left _ (List.mem_append_left _ ha)))
  have hpl : ∀ a ∈ l ++ r, a ≠ p := fun a ha e => nd3.1 (by
    rw [← e]
    rcases List.mem_append.mp ha with h | h
    · exact List.mem_append_right _ (List.mem_append_left _ (List.mem_append_right _ h))
    · exact List.mem_append_right _ (List.mem_append_right _ h))
  have mp : p ∈ as ++ (l ++ (p :: m) ++ r) := pm.mem_iff.mpr List.mem_cons_self
  refine ⟨o, m, hp, hc, (z.fre p mp).1, hpm, hpa, fun {c' o' m'} hc' hs => ⟨l ++ (p :: m') ++ r, ?_⟩⟩
  have sub : (as ++ (l ++ (p :: m') ++ r)).Sublist (as ++ (l ++ (p :: m) ++ r)) := (List.Sublist.refl as).append (((List.Sublist.refl l).append (hs.cons_cons p)).append (List.Sublist.refl r))
  exact ⟨z.tmp.mono (Ex.refl G) fun a ha => upd_ne (hpa a ha), (reb (Ex.refl G) fun a ha => upd_ne (hpl a ha)).1 upd_same hc', z.slo, sub.nodup nd, fun a ha => z.fre a (sub.mem ha), z.gro, z.new,
    fun a u ha => by rw [upd_ne (by intro e; subst e; rw [(z.fre a mp).1] at ha; cases ha)]; exact z.sub a u ha, fun a u ha => by rw [upd_ne (by intro e; subst e; rw [(z.fre a mp).2] at ha; cases ha)]; exact z.frm a u ha⟩
theorem St0.push (z : St0 B S T σ tv H G as bs) (h : SlI G H x v []) : Sta B S (x :: T) σ (v :: tv) H := ⟨G, [] ++ as, bs, .cons h z.tmp, z.cel, z.slo, z.nod, z.fre, z.gro, z.new, z.sub, z.frm⟩
theorem SlI.any' {G H H' : Hp} (h : SlI G H x v []) : SlI G H' x v [] := h.mono (Ex.refl G) fun _ h => nomatch h
theorem SsI.any' {G H H' : Hp} {ss : List Slot} {vs : List V} (h : SsI G H ss vs []) : SsI G H' ss vs [] := h.mono (Ex.refl G) fun _ h => nomatch h
end
section
variable {X : Cx} {B : Base} {S S1 S2 S3 : Stt} {x y z : Slot} {a b e o : Expr} {es : List Expr} {pos apos : Pos} {D : FE} {rest : List Stmt} {ss : List Slot} {p : Addr}
/-- with arguments: the object, then the arguments, then what the method asks -/
theorem je_bm {id : String} {r : V → List V → Hp → VK → Prop} {name : Str} {xs : List Slot} {ss0 : List Slot} (k : Nat) (slot : PySem.Slot "list" name id) (hty : typeOf (.builtin id) = pure (.type "method_descriptor")) (hm : MtR X id r) (ho : JE X B S o S1 (.v (.ref p))) (hk : S1.cs[k]? = some (p, .lst ss0)) (ha : JA X B S1 (e :: es) S2 xs)
    (hr : ∀ T tv σ vs H Q, vs.length = xs.length → Sta B S2 (xs ++ T) σ (vs ++ tv) H → (∀ w H', Sta B S3 (z :: T) σ (w :: tv) H' → Q w H') → r (.ref p) vs H Q)
    (hbase : attributeBase o name X.env (eval o X.env) = eval o X.env := by rfl)
    (hfew : ((backTo pos (starEach (e :: es) X.env)).all (fun x => !x.1) && (backToKw pos (keywordEach [] X.env)).all (fun x => x.1.isSome) && decide ((e :: es).length + ([] : List Keyword).length + (if ([] : List Keyword).isEmpty then 0 else 1) < 30)) = true := by rfl)
    (hline : (apos.endLine == pos.line) = true := by rfl) (hs : starEach (e :: es) X.env = (false, eval e X.env) :: starEach es X.env := by rfl) (hplain : (backTo pos (starEach es X.env)).any (·.1) = false := by rfl) : JE X B S (.Call (.Attribute o name apos) (e :: es) [] pos) S3 z := fun T tv σ H Q h q =>
  pe1 (pe_bm PySem.F.plainAttrs_list slot hty hm pe0 pa0 hbase hfew hline hs hplain) (ho _ _ _ _ _ h fun v H1 h1 => by
    have e := h1.exact
    subst e
    have h2 := h1.drop
    have h2' := h2
    obtain ⟨G, as, bs, z0⟩ := h2'
    obtain ⟨oo, m, hp, hc, _⟩ := z0.cellW hk (by intro e; cases e)
    cases hc with
    | lst hs => exact ⟨.inl ⟨rfl, _, .of hp⟩, ha _ _ _ _ _ h2 fun vs H3 hl h3 => hr _ _ _ _ _ _ hl h3 q⟩)
theorem je_append (k : Nat) (ho : JE X B S o S1 (.v (.ref p))) {ss0 : List Slot} (hk0 : S1.cs[k]? = some (p, .lst ss0)) (he : JE X B S1 e S2 y) (hk : S2.cs[k]? = some (p, .lst ss)) (hl : ss.length < 16777216) (hy : y.plain = true := by rfl)
    (hbase : attributeBase o "append" X.env (eval o X.env) = eval o X.env := by rfl) (hst : starEach [e] X.env = (false, eval e X.env) :: starEach [] X.env := by rfl)
    (hfew : ((backTo pos (starEach [e] X.env)).all (fun x => !x.1) && (backToKw pos (keywordEach [] X.env)).all (fun x => x.1.isSome) && decide (([e] : List Expr).length + ([] : List Keyword).length + (if ([] : List Keyword).isEmpty then 0 else 1) < 30)) = true := by rfl)
    (hline : (apos.endLine == pos.line) = true := by rfl) : JE X B S (.Call (.Attribute o "append" apos) [e] [] pos) ⟨S2.sl, S2.cs.set k (p, .lst (ss ++ [y]))⟩ (.v .non) :=
  je_bm k PySem.F.slot_list_append PySem.F.type_list_append mt_append ho hk0 (ja_cons he ja_nil hst) (fun T tv σ vs H Q hl' h q => by
    obtain ⟨v, rfl⟩ : ∃ v, vs = [v] := match vs, hl' with | [v], _ => ⟨v, rfl⟩
    obtain ⟨G, as, bs, z0⟩ := id h
    obtain ⟨a1, a2, rfl, hs1, z1⟩ := z0.pop
    obtain rfl := hs1.nil hy
    obtain ⟨oo, m, hp, hc, _, hm1, _, reb⟩ := z1.cellW hk (by intro e; cases e)
    cases hc with
    | @lst _ vs0 _ hs =>
      have hz : vs0.length < sizeLine := by rw [← hs.len]; exact hl
      refine ⟨p, vs0, v, rfl, rfl, hp, hz, ?_⟩
      have hnew : CeI G (upd H p (.lst (vs0 ++ [v]))) (.lst (ss ++ [y])) (.lst (vs0 ++ [v])) (m ++ []) := .lst ((hs.mono (Ex.refl G) fun a ha => upd_ne (hm1 a ha)).app (SsI.one hs1.any'))
      obtain ⟨bs', z3⟩ := reb hnew (by rw [List.append_nil]; exact List.Sublist.refl m)
      exact q _ _ (z3.push .v)) hbase hfew hline hst
/-- pop(i) -/
theorem je_popAt (k : Nat) {i : Int} {j : Nat} (ho : JE X B S o S1 (.v (.ref p))) {ss0 : List Slot} (hk0 : S1.cs[k]? = some (p, .lst ss0)) (he : JE X B S1 e S2 (.val i)) (hk : S2.cs[k]? = some (p, .lst ss)) (hp : ∀ s ∈ ss, s.plain = true) {s : Slot} (hj : ixp ss.length i = some j) (hl : ss[j]? = some s) (h63 : ss.length ≤ 16777216)
    (hbase : attributeBase o "pop" X.env (eval o X.env) = eval o X.env := by rfl) (hst : starEach [e] X.env = (false, eval e X.env) :: starEach [] X.env := by rfl)
    (hfew : ((backTo pos (starEach [e] X.env)).all (fun x => !x.1) && (backToKw pos (keywordEach [] X.env)).all (fun x => x.1.isSome) && decide (([e] : List Expr).length + ([] : List Keyword).length + (if ([] : List Keyword).isEmpty then 0 else 1) < 30)) = true := by rfl)
    (hline : (apos.endLine == pos.line) = true := by rfl) : JE X B S (.Call (.Attribute o "pop" apos) [e] [] pos) ⟨S2.sl, S2.cs.set k (p, .lst (ss.eraseIdx j))⟩ s :=
  je_bm k PySem.F.slot_list_pop PySem.F.type_list_pop mt_popAt ho hk0 (ja_cons he ja_nil hst) (fun T tv σ vs H Q hl' h q => by
    obtain ⟨v, rfl⟩ : ∃ v, vs = [v] := match vs, hl' with | [v], _ => ⟨v, rfl⟩
    have e := h.int
    subst e
    obtain ⟨G, as, bs, z1⟩ := h.drop
    obtain ⟨oo, m, hpp, hc, _, hm1, _, reb⟩ := z1.cellW hk (by intro e; cases e)
    cases hc with
    | @lst _ vs0 _ hs =>
      obtain rfl := hs.plain hp
      obtain ⟨u, hu, su⟩ := hs.get _ hl
      have hx : ixN vs0.length i = some j := by rw [← hs.len]; exact hj
      obtain ⟨x1, x2, x3, x4⟩ := ixN_seq hx
      have hlen := hs.len
      refine ⟨p, vs0, i, j, u, rfl, rfl, hpp, by omega, by omega, x1, hu, ?_⟩
      have hnew : CeI G (upd H p (.lst (vs0.eraseIdx j))) (.lst (ss.eraseIdx j)) (.lst (vs0.eraseIdx j)) [] := .lst (SsI.of_get (by rw [List.length_eraseIdx, List.length_eraseIdx, hs.len]) fun i s u h1 h2 => by
        rw [List.getElem?_eraseIdx] at h1 h2
        split at h1
        · rw [if_pos (by assumption)] at h2
          obtain ⟨u', e1, e2⟩ := hs.get _ h1
          rw [h2] at e1
          cases e1
          exact e2.any'
        · rw [if_neg (by assumption)] at h2
          obtain ⟨u', e1, e2⟩ := hs.get _ h1
          rw [h2] at e1
          cases e1
          exact e2.any')
      obtain ⟨bs', z3⟩ := reb hnew (List.Sublist.refl _)
      exact q _ _ (z3.push su.any')) hbase hfew hline hst
theorem jg_sub (k : Nat) {i : Int} {j : Nat} {ix : Expr} (ho : JE X B S o S1 (.v (.ref p))) (hi : JE X B S1 ix S2 (.val i)) (hk : S2.cs[k]? = some (p, .lst ss)) (hj : ixp ss.length i = some j) (hp : ∀ s ∈ ss, s.plain = true) (hy : y.plain = true := by rfl)
    (ha : ∀ v, assign (.Subscript o ix pos) X.env v = (do
      let ov ← holding [v] (eval o X.env)
      let iv ← holding [v, ov] (eval ix X.env)
      standAt pos
      holding [v, ov, iv] (setItem ov iv v)
      release [v, ov, iv] []) := by intro _; rfl) : JG X B S (.Subscript o ix pos) y ⟨S2.sl, S2.cs.set k (p, .lst (ss.set j y))⟩ [] := fun T tv σ v H Q h q =>
  pg1 (pg_sub pe0 pe0 set_list ha) (ho _ _ _ _ _ h fun w H1 h1 => by
    have e := h1.exact
    subst e
    refine hi _ _ _ _ _ h1 fun w H2 h2 => ?_
    have e := h2.int
    subst e
    obtain ⟨G, as, bs, z0⟩ := h2.drop.drop
    obtain ⟨a1, a2, rfl, hs1, z1⟩ := z0.pop
    obtain rfl := hs1.nil hy
    obtain ⟨oo, m, hpp, hc, _, hm1, _, reb⟩ := z1.cellW hk (by intro e; cases e)
    cases hc with
    | @lst _ vs0 _ hs =>
      obtain rfl := hs.plain hp
      refine ⟨p, vs0, i, j, rfl, rfl, hpp, by rw [← hs.len]; exact hj, ?_⟩
      have hnew : CeI G (upd H2 p (.lst (vs0.set j v))) (.lst (ss.set j y)) (.lst (vs0.set j v)) [] := .lst (SsI.of_get (by rw [List.length_set, List.length_set, hs.len]) fun n s u h1 h2 => by
        rw [List.getElem?_set] at h1 h2
        have hlen := hs.len
        by_cases e : j = n
        · rw [if_pos e] at h1 h2
          split at h1
          · rw [if_pos (by omega)] at h2
            cases h1
            cases h2
            exact hs1.any'
          · cases h1
        · rw [if_neg e] at h1 h2
          obtain ⟨u', e1, e2⟩ := hs.get _ h1
          rw [h2] at e1
          cases e1
          exact e2.any')
      obtain ⟨bs', z3⟩ := reb hnew (List.Sublist.refl _)
      exact q _ _ (Chg.refl _ _) z3.sta)
/-- any target -/
theorem js_asg {tg : Expr} (he : JE X B S e S1 x) {ws : List Nat} (hg : JG X B S1 tg x S2 ws) (k : JS X B S2 rest D) (hs : swapsWithSole [tg] e pos.line X.env = pure false := by rfl) (hw : swappedStores [tg] e X.env = pure none := by rfl) (h1 : (assignEach [tg] X.env).map (·.2) = [assign tg X.env] := by rfl) : JS X B S (.Assign [tg] e pos :: rest) D :=
  js_step (ps_asg pe0 pg0 hs hw h1) fun T tv σ H h => he _ _ _ _ _ h fun v H1 h1 => hg _ _ _ _ _ _ h1 fun σ' H' _ h2 => k _ _ _ _ h2
/-- name op= e, whole numbers -/
theorem js_augI (i : Nat) {n : Str} {pos' : Pos} {op : Operator} {f : Int → Int → Int} {m k0 : Int} (hop : PIp X op (ipI f)) (hv : S.sl[i]? = some (.val m)) (he : JE X B S e S1 (.val k0)) (k : JS X B ⟨S1.sl.set i (.val (f m k0)), S1.cs⟩ rest D) (hN : X.N.Nodup := by assumption) (hi : X.N[i]? = some n := by rfl)
    (hx : Loc X.env.scope n := by first | exact .inl rfl | exact .inr rfl) (hf : X.fn n = true ∨ X.env.scope.names.lookup n = some .local := by first | exact .inl rfl | exact .inr rfl) : JS X B S (.AugAssign (.Name n pos') op e pos :: rest) D :=
  js_step (ps_aug hN hi hx pe0 hop hf) fun T tv σ H h => by
    obtain ⟨v, h1, h2⟩ := h.get hv rfl
    have e := h2.int
    subst e
    refine ⟨.int m, h1, he _ _ _ _ _ h fun u H1 h3 => ?_⟩
    have e := h3.int
    subst e
    exact ⟨m, k0, rfl, rfl, k _ _ _ _ ((h3.drop.push fun _ _ => sl_int (f m k0)).set rfl i)⟩
end
end J
namespace J
universe u w
open PySem L2
open PySem.W (Datum DatumOrd Holds HoldAll)
section
variable {X : Cx} {pins : List (Addr × Obj)} {σ : St} {H : Hp} {s : Shared}
theorem holds_of {α : Type} [DecidableEq α] [Datum α] {t : α} {v : V} {u : Value} (I : Inv X pins σ H s) (h : Dq H v (Datum.toD t)) (r : RelV v u) : Holds s.heap u t := Dp.reads I _ _ _ (dq_dp h) r
theorem holdAll_of {α : Type} [DecidableEq α] [Datum α] {ts : List α} {vs : List V} {us : List Value} (I : Inv X pins σ H s) (h : DqAll H vs (ts.map Datum.toD)) (r : Vals vs us) : HoldAll s.heap us ts := Dp.readsAll I _ _ _ (dqAll_dp h) r
/-- the reading of a list's items: where it stands, what it holds -/
def LD (K : PySem.W.Frag) (H : Hp) (v : V) {α : Type} [DecidableEq α] [Datum α] (ts : List α) : Prop := ∃ a vs, v = .ref a ∧ SqL K H a vs ∧ DqAll H vs (ts.map Datum.toD)
def rEqT : R2 := fun x y H Q => ∃ (α : Type) (i1 : DecidableEq α) (i2 : Datum α) (t r : α), Dq H x (Datum.toD t) ∧ Dq H y (Datum.toD r) ∧ Datum.depth α ≤ 60 ∧ Q (.bl (decide (t = r))) H
def rNeT : R2 := fun x y H Q => ∃ (α : Type) (i1 : DecidableEq α) (i2 : Datum α) (t r : α), Dq H x (Datum.toD t) ∧ Dq H y (Datum.toD r) ∧ Datum.depth α ≤ 60 ∧ Q (.bl (decide (t ≠ r))) H
def rInT (K : PySem.W.Frag) : R2 := fun x y H Q => ∃ (α : Type) (i1 : DecidableEq α) (i2 : Datum α) (t : α) (ts : List α), Dq H x (Datum.toD t) ∧ LD K H y ts ∧ Datum.depth α ≤ 60 ∧ Q (.bl (decide (t ∈ ts))) H
def rNotInT (K : PySem.W.Frag) : R2 := fun x y H Q => ∃ (α : Type) (i1 : DecidableEq α) (i2 : Datum α) (t : α) (ts : List α), Dq H x (Datum.toD t) ∧ LD K H y ts ∧ Datum.depth α ≤ 60 ∧ Q (.bl (decide (t ∉ ts))) H
theorem op_eqT (hu : X.A.units + 64 < cLine) : OpR X (compareOp .Eq) rEqT := by
  intro pins s σ H x y v u Q I rx ry h
  obtain ⟨α, i1, i2, t, r, h1, h2, hd, q⟩ := h
  exact PySem.W.eq_datum (holds_of I h1 rx) (holds_of I h2 ry) (by omega) ⟨.bl _, H, I, rfl, q⟩
theorem op_neT (hu : X.A.units + 64 < cLine) : OpR X (compareOp .NotEq) rNeT := by
  intro pins s σ H x y v u Q I rx ry h
  obtain ⟨α, i1, i2, t, r, h1, h2, hd, q⟩ := h
  exact PySem.W.ne_datum (holds_of I h1 rx) (holds_of I h2 ry) (by omega) ⟨.bl _, H, I, rfl, q⟩
theorem op_inT (hu : X.A.units + 64 < cLine) : OpR X (compareOp .In) (rInT X.K) := by
  intro pins s σ H x y v u Q I rx ry h
  obtain ⟨α, i1, i2, t, ts, h1, ⟨a, vs, rfl, hs, ha⟩, hd, q⟩ := h
  cases ry
  obtain ⟨its, r, pl, hz⟩ := I.list hs
  exact PySem.W.in_list_datum pl.isList (by simpa using holdAll_of I ha r) (holds_of I h1 rx) (by omega) ⟨.bl _, H, I, rfl, q⟩
theorem op_notInT (hu : X.A.units + 64 < cLine) : OpR X (compareOp .NotIn) (rNotInT X.K) := by
  intro pins s σ H x y v u Q I rx ry h
  obtain ⟨α, i1, i2, t, ts, h1, ⟨a, vs, rfl, hs, ha⟩, hd, q⟩ := h
  cases ry
  obtain ⟨its, r, pl, hz⟩ := I.list hs
  exact PySem.W.notIn_list_datum pl.isList (by simpa using holdAll_of I ha r) (holds_of I h1 rx) (by omega) ⟨.bl _, H, I, rfl, q⟩
def rMaxT (K : PySem.W.Frag) : List V → Hp → VK → Prop := fun ws H Q => ∃ (α : Type) (i1 : DecidableEq α) (i2 : DatumOrd α) (t : α) (ts : List α) (a : Addr) (vs : List V), ws = [.ref a] ∧ SqL K H a vs ∧ DqAll H vs ((t :: ts).map (@Datum.toD α i1 i2.toDatum)) ∧ @Datum.depth α i1 i2.toDatum ≤ 60 ∧ ∀ (i : Nat) v, vs[i]? = some v → (t :: ts : List α)[i]? = some (PySem.W.maxOf t ts) → Q v H
theorem at_same {α : Type} [DecidableEq α] [DatumOrd α] {xs : List α} {vs : List V} {us : List Value} {h' : Heap} (I : Inv X pins σ H s) (ha : DqAll H vs (xs.map Datum.toD)) (r : Vals vs us) {i : Nat} {u : Value} (hi : us[i]? = some u) {m : α} (hm : Holds h' u m) (k : ∀ b o, s.heap.get? b = some o → h'.get? b = some o) : ∃ v, vs[i]? = some v ∧ RelV v u ∧ xs[i]? = some m := by
  have hl := r.length
  have hx := (dqAll_ss (G := H) (H := H) ha).len
  rw [List.length_map] at hx
  have hb := (List.getElem?_eq_some_iff.mp hi).1
  have hv : vs[i]? = some vs[i] := List.getElem?_eq_getElem (by omega)
  obtain ⟨u', e1, e2⟩ := r.get hv
  rw [hi] at e1
  cases e1
  refine ⟨vs[i], hv, e2, ?_⟩
  have hxi : xs[i]? = some xs[i] := List.getElem?_eq_getElem (by omega)
  have hxm : (xs.map Slot.val)[i]? = some (Slot.val xs[i]) := by rw [List.getElem?_map, hxi]; rfl
  obtain ⟨v', f1, f2⟩ := (dqAll_ss (G := H) (H := H) ha).get i hxm
  rw [hv] at f1
  cases f1
  cases f2 with
  | val d =>
    obtain ⟨as, h1⟩ := holds_of I d e2
    obtain ⟨bs, h2⟩ := hm
    have e := PySem.W.alike_unique _ _ _ _ _ (DatumOrd.alike xs[i] m) (PyProof.Rows.Reads.keeps k h1) h2
    have e3 := Datum.eqv xs[i] m
    rw [e, Datum.eqv, decide_eq_true rfl] at e3
    rw [hxi, of_decide_eq_true e3.symm]
theorem cr_maxT (hu : X.A.units + 64 < cLine) (hc : X.calm = true) : CallR X (.builtin "max") (rMaxT X.K) := by
  intro pins s σ H ws us Q I r h
  obtain ⟨α, i1, i2, t, ts, a, vs, rfl, hs, ha, hd, q⟩ := h
  obtain ⟨its, rv, pl, _⟩ := I.list hs
  rw [Vals.ref1 r]
  exact PySem.W.max_list_datum (I.ok.hd hc) pl.isList (by simpa using holdAll_of I ha rv) (by omega) fun i u h' tk hi hm hk => by
    obtain ⟨v, h1, h2, h3⟩ := at_same I ha rv (by simpa using hi) hm hk
    exact ⟨v, H, I.kept hk, h2, q i v h1 h3⟩
end
def Dv {α : Type} [DecidableEq α] [Datum α] (B : Base) (S : Stt) (x : Slot) (t : α) : Prop := ∀ {T σ v tv H G as bs}, St0 B S (x :: T) σ (v :: tv) H G as bs → Dq H v (Datum.toD t)
section
variable {B : Base} {S : Stt} {α : Type} [DecidableEq α] [Datum α] {t : α}
theorem dv_fz {x : Slot} (f : FzS x (Datum.toD t)) : Dv B S x t := fun z => by
  obtain ⟨a1, a2, _, h, z'⟩ := z.pop
  exact f.dq h z.sub fun _ _ => rfl
theorem dv_val : Dv B S (.val t) t := dv_fz .val
theorem dv_cell (k : Nat) {p : Addr} {c : Cel} (hk : S.cs[k]? = some (p, c)) (f : FzC c (Datum.toD t)) : Dv B S (.v (.ref p)) t := fun z => by
  obtain ⟨a1, a2, _, h, z'⟩ := z.pop
  cases h with
  | v =>
    obtain ⟨l, o, m, r, _, hp, hc, _⟩ := z.cel.at k hk (by intro e; subst e; cases f)
    exact f.dq hc hp z.sub fun _ _ => rfl
theorem dv_cellL {xs : List α} (k : Nat) {p : Addr} (hk : S.cs[k]? = some (p, .lst (xs.map Slot.val))) : Dv B S (.v (.ref p)) xs := dv_cell k hk (fz_val xs)
theorem dv_ownL {xs : List α} : Dv B S (.own (.lst (xs.map Slot.val))) xs := dv_fz (.own (fz_val xs))
theorem lv_ld {xs : List α} {x : Slot} {K : PySem.W.Frag} (hl : Lv K B S x (xs.map Slot.val)) {T σ v tv H G as bs} (z : St0 B S (x :: T) σ (v :: tv) H G as bs) : LD K H v xs := by
  obtain ⟨a, vs, rfl, hr, hss⟩ := hl z
  exact ⟨a, vs, rfl, hr, dqAll_mono z.sub (ss_dqAll hss)⟩
end
section
variable {X : Cx} {B : Base} {S S1 S2 S3 : Stt} {x y z : Slot} {a b e o : Expr} {es : List Expr} {pos apos : Pos} {D : FE} {rest : List Stmt} {α : Type} [DecidableEq α] [Datum α] {t r : α} {xs : List α} {k : Nat}
theorem o2_eq (h1 : Dv B S x t) (h2 : Dv B S y r) (hd : Datum.depth α ≤ 60) : O2 X B rEqT S x y S (.val (decide (t = r))) := fun T tv σ v u H Q h q => by
  obtain ⟨G, as, bs, z⟩ := h
  obtain ⟨a1, a2, rfl, _, z'⟩ := id z.pop
  exact ⟨α, _, _, t, r, h1 z', h2 z, hd, q _ _ (z'.sta.drop.push fun _ _ => sl_bl _)⟩
theorem o2_ne (h1 : Dv B S x t) (h2 : Dv B S y r) (hd : Datum.depth α ≤ 60) : O2 X B rNeT S x y S (.val (decide (t ≠ r))) := fun T tv σ v u H Q h q => by
  obtain ⟨G, as, bs, z⟩ := h
  obtain ⟨a1, a2, rfl, _, z'⟩ := id z.pop
  exact ⟨α, _, _, t, r, h1 z', h2 z, hd, q _ _ (z'.sta.drop.push fun _ _ => sl_bl _)⟩
theorem jt_eq' (hr : Room k X.A) (ha : JE X B S a S1 x) (hb : JE X B S1 b S2 y) (h1 : Dv B S2 x t) (h2 : Dv B S2 y r) (hd : Datum.depth α ≤ 60 := by decide) : JT X B S (.Compare a [.Eq] [b] pos) S2 (decide (t = r)) := jt_cmp (op_eqT hr.units) ha hb (o2_eq h1 h2 hd) (nomark _)
theorem jt_ne' (hr : Room k X.A) (ha : JE X B S a S1 x) (hb : JE X B S1 b S2 y) (h1 : Dv B S2 x t) (h2 : Dv B S2 y r) (hd : Datum.depth α ≤ 60 := by decide) : JT X B S (.Compare a [.NotEq] [b] pos) S2 (decide (t ≠ r)) := jt_cmp (op_neT hr.units) ha hb (o2_ne h1 h2 hd) (nomark _)
theorem jc_eq (hr : Room k X.A) (ha : JE X B S a S1 x) (hb : JE X B S1 b S2 y) (h1 : Dv B S2 x t) (h2 : Dv B S2 y r) (hd : Datum.depth α ≤ 60 := by decide) : JE X B S (.Compare a [.Eq] [b] pos) S2 (.val (decide (t = r))) := je_cmp (op_eqT hr.units) ha hb (o2_eq h1 h2 hd) (nomark _)
theorem o2_in (h1 : Dv B S x t) (h2 : Lv X.K B S y (xs.map Slot.val)) (hd : Datum.depth α ≤ 60) : O2 X B (rInT X.K) S x y S (.val (decide (t ∈ xs))) := fun T tv σ v u H Q h q => by
  obtain ⟨G, as, bs, z⟩ := h
  obtain ⟨a1, a2, rfl, _, z'⟩ := id z.pop
  exact ⟨α, _, _, t, xs, h1 z', lv_ld h2 z, hd, q _ _ (z'.sta.drop.push fun _ _ => sl_bl _)⟩
theorem o2_notIn (h1 : Dv B S x t) (h2 : Lv X.K B S y (xs.map Slot.val)) (hd : Datum.depth α ≤ 60) : O2 X B (rNotInT X.K) S x y S (.val (decide (t ∉ xs))) := fun T tv σ v u H Q h q => by
  obtain ⟨G, as, bs, z⟩ := h
  obtain ⟨a1, a2, rfl, _, z'⟩ := id z.pop
  exact ⟨α, _, _, t, xs, h1 z', lv_ld h2 z, hd, q _ _ (z'.sta.drop.push fun _ _ => sl_bl _)⟩
theorem jt_in (hr : Room k X.A) (ha : JE X B S a S1 x) (hb : JE X B S1 b S2 y) (h1 : Dv B S2 x t) (h2 : Lv X.K B S2 y (xs.map Slot.val)) (hd : Datum.depth α ≤ 60 := by decide) (hm : behindInMarks .In b = false := by rfl) : JT X B S (.Compare a [.In] [b] pos) S2 (decide (t ∈ xs)) := jt_cmp (op_inT hr.units) ha hb (o2_in h1 h2 hd) hm
theorem jt_notIn (hr : Room k X.A) (ha : JE X B S a S1 x) (hb : JE X B S1 b S2 y) (h1 : Dv B S2 x t) (h2 : Lv X.K B S2 y (xs.map Slot.val)) (hd : Datum.depth α ≤ 60 := by decide) (hm : behindInMarks .NotIn b = false := by rfl) : JT X B S (.Compare a [.NotIn] [b] pos) S2 (decide (t ∉ xs)) := jt_cmp (op_notInT hr.units) ha hb (o2_notIn h1 h2 hd) hm
def Nn (x : Slot) (q : Bool) : Prop := ∀ {G H v as}, SlI G H x v as → decide (v = .non) = q
theorem nn_opt {β : Type} [DecidableEq β] [Datum β] [PySem.W.SomeDatum β] {t : Option β} : Nn (.val t) t.isNone := fun h => by
  cases h with
  | val h =>
    cases t with
    | none => cases (show Dq _ _ PyData.none from h); rfl
    | some a =>
      have h' : Dq _ _ (Datum.toD a) := h
      have hne := PySem.W.SomeDatum.left a
      generalize Datum.toD a = d at h' hne
      cases h' with
      | non => simp [PyData.eqv] at hne
      | bl _ => rfl
      | int _ => rfl
      | str _ => rfl
      | lst _ _ => rfl
      | tup _ _ => rfl
theorem jc_notN {j : Nat} {p1 : Pos} {q : Bool} (ha : JE X B S a S1 x) (hx : Nn x q) : JE X B S (.Compare a [.IsNot] [.Constant .none j p1] pos) S1 (.val (!q)) := fun T tv σ H Q h kk => pe1 (pe_cmp (pc_notN pe0)) (ha _ _ _ _ _ h fun v H1 h1 => by
  obtain ⟨G, as, g, _⟩ := h1.top
  rw [hx g]
  exact kk _ _ (h1.drop.push fun _ _ => sl_bl _))
theorem je_maxT {β : Type} [DecidableEq β] [DatumOrd β] {t : β} {ts : List β} {p : Pos} (hr : Room k X.A) (hm : X.mg "max" = none) (ha : JE X B S e S1 x) (hl : Lv X.K B S1 x ((t :: ts).map Slot.val)) (hc : X.calm = true := by rfl) (hd : Datum.depth β ≤ 60 := by decide) (hg : Gl X "max" := by rfl) (hst : starEach [e] X.env = (false, eval e X.env) :: starEach [] X.env := by rfl) : JE X B S (.Call (.Name "max" p) [e] [] pos) S1 (.val (PySem.W.maxOf t ts)) :=
  je_callB (cr_maxT hr.units hc) hm PyProof.Rows.boot_max (ja_cons ha ja_nil hst) (oc1 fun T tv σ v H Q hs q => by
    obtain ⟨G, as, bs, z⟩ := id hs
    obtain ⟨a, vs, rfl, hr, hss⟩ := hl z
    obtain ⟨a1, a2, rfl, _, z'⟩ := id z.pop
    refine ⟨β, _, _, t, ts, a, vs, rfl, hr, dqAll_mono z.sub (ss_dqAll hss), hd, fun i v h1 h2 => ?_⟩
    have hx : ((t :: ts).map Slot.val)[i]? = some (Slot.val (PySem.W.maxOf t ts)) := by rw [List.getElem?_map, h2] <;> rfl
    obtain ⟨v', e1, e2⟩ := hss.get i hx
    rw [h1] at e1
    cases e1
    exact q _ _ (z'.push e2)) hg (by decide) (by decide) hst
end
end J
namespace J
universe u w
open PySem L2
open PySem.W (Datum DatumOrd Holds HoldAll T3 T4)
section
variable {X : Cx} {B : Base} {S S1 S2 S3 : Stt} {x y z : Slot} {a b e o : Expr} {es : List Expr} {pos apos : Pos} {D : FE} {rest : List Stmt} {k : Nat} {tg : Expr}
/-- a list: a value, or one that has a name and is left as it is -/
theorem ji_list {α : Type} [DecidableEq α] [Datum α] {xs : List α} {ok : Stt → Prop} (ha : JE X B S e S1 x) (hl : Lv X.K B S1 x (xs.map Slot.val)) (hok : ∀ S, ok S → Lv X.K B S x (xs.map Slot.val)) : JI X B S tg e S1 [x] (xs.map Slot.val) ok := fun T tv σ H R hs q =>
  pi1 (pi_list pe0) (ha _ _ _ _ _ hs fun v H1 h1 => by
    obtain ⟨G, as, bs, z⟩ := id h1
    obtain ⟨p, vs, rfl, hr, hss⟩ := hl z
    refine ⟨p, rfl, ⟨vs, hr⟩, q (Itl X.K p) [.ref p] H1 rfl h1 ⟨fun S T σ tv H i s hS hi h => ?_, fun S T σ tv H hS h => ?_⟩⟩
    · obtain ⟨G, as, bs, z⟩ := id h
      obtain ⟨p', vs', e, hr', hss'⟩ := hok S hS z
      cases e
      obtain ⟨u, hu, su⟩ := hss'.get i hi
      refine ⟨⟨vs', u, hr', hu⟩, fun v H' hy => ?_⟩
      obtain ⟨rfl, hy⟩ := hy
      have e := hy vs' (hr')
      rw [hu] at e
      cases e
      exact z.push su
    · obtain ⟨G, as, bs, z⟩ := id h
      obtain ⟨p', vs', e, hr', hss'⟩ := hok S hS z
      cases e
      exact ⟨vs', hr', Nat.le_of_eq hss'.len.symm⟩)
theorem ji_val {α : Type} [DecidableEq α] [Datum α] {xs : List α} (ha : JE X B S e S1 (.val xs)) : JI X B S tg e S1 [.val xs] (xs.map Slot.val) (fun _ => True) := ji_list ha lv_val fun _ _ => lv_val
theorem ji_own {α : Type} [DecidableEq α] [Datum α] {xs : List α} (ha : JE X B S e S1 (.own (.lst (xs.map Slot.val)))) : JI X B S tg e S1 [.own (.lst (xs.map Slot.val))] (xs.map Slot.val) (fun _ => True) := ji_list ha lv_own' fun _ _ => lv_own'
theorem ji_pre {ns : List Int} {p : Addr} (ha : JE X B S e S1 (.v (.ref p))) (h : SqL X.K B.G p (ns.map V.int)) : JI X B S tg e S1 [.v (.ref p)] (ns.map Slot.val) (fun _ => True) := ji_list ha (lv_pre h) fun _ _ => lv_pre h
/-- lo, lo + 1, .. -/
def rng (lo : Int) (n : Nat) : List Int := (List.range n).map fun i : Nat => lo + (i : Int)
theorem rng_len (lo : Int) (n : Nat) : (rng lo n).length = n := by unfold rng; rw [List.length_map, List.length_range]
theorem rng_get {lo : Int} {n i : Nat} {m : Int} (h : (rng lo n)[i]? = some m) : i < n ∧ m = lo + i := by
  unfold rng at h
  rw [List.getElem?_map] at h
  cases q : (List.range n)[i]? with
  | none => rw [q] at h; cases h
  | some j =>
    rw [q] at h
    cases h
    obtain ⟨h1, h2⟩ := List.getElem?_eq_some_iff.mp q
    rw [List.getElem_range] at h2
    subst h2
    rw [List.length_range] at h1
    exact ⟨h1, rfl⟩
theorem wk_range {lo : Int} {n : Nat} : Wk X B [] [] ((rng lo n).map Slot.val) (fun _ => True) (Itr lo n) :=
  ⟨fun S T σ tv H i s _ hi h => by
    rw [List.getElem?_map] at hi
    cases q : (rng lo n)[i]? with
    | none => rw [q] at hi; cases hi
    | some m =>
      rw [q] at hi
      cases hi
      obtain ⟨h1, rfl⟩ := rng_get q
      exact ⟨h1, fun v H' ⟨e1, e2⟩ => by
        subst e1 e2
        exact h.push fun _ _ => sl_int _⟩, fun S T σ tv H _ _ => by
    rw [List.length_map, rng_len]
    exact Nat.le_refl _⟩
theorem ji_range1 {p : Pos} {j : Int} (hm : X.mg "range" = none) (ha : JE X B S e S1 (.val j)) (hj : -(4611686018427387904 : Int) ≤ j ∧ j < 4611686018427387904) (hg : Gl X "range" := by rfl) (hst : starEach [e] X.env = (false, eval e X.env) :: starEach [] X.env := by rfl) (hs : starEach [e] X.env = [(false, eval e X.env)] := by rfl) : JI X B S tg (.Call (.Name "range" p) [e] [] pos) S1 [] ((rng 0 j.toNat).map Slot.val) (fun _ => True) := fun T tv σ H R h q =>
  pi1 (pi_range1 hg hm pa0 hs) (ja_cons ha ja_nil hst _ _ _ _ _ h fun vs H1 hl h1 => by
    obtain ⟨v, rfl⟩ : ∃ v, vs = [v] := match vs, hl with | [v], _ => ⟨v, rfl⟩
    have e := h1.int
    subst e
    exact ⟨j, rfl, hj.1, hj.2, q _ [] _ rfl h1.drop wk_range⟩)
/-- enumerate -/
def enu {α : Type} (i : Int) : List α → List (Int × α)
  | [] => []
  | x :: xs => (i, x) :: enu (i + 1) xs
theorem enu_len {α : Type} : ∀ (i : Int) (xs : List α), (enu i xs).length = xs.length
  | _, [] => rfl
  | i, _ :: xs => congrArg Nat.succ (enu_len (i + 1) xs)
theorem enu_get {α : Type} : ∀ (i : Int) (xs : List α) (n : Nat) {p : Int × α}, (enu i xs)[n]? = some p → p.1 = i + n ∧ xs[n]? = some p.2
  | _, [], _, _, h => by simp [enu] at h
  | i, x :: xs, 0, p, h => by
    have e : (i, x) = p := Option.some.inj h
    subst e
    exact ⟨by simp, rfl⟩
  | i, x :: xs, n + 1, p, h => by
    obtain ⟨h1, h2⟩ := enu_get (i + 1) xs n (show (enu (i + 1) xs)[n]? = some p from h)
    exact ⟨by rw [h1]; omega, h2⟩
/-- a new pair -/
theorem push_pair {α β : Type} [DecidableEq α] [Datum α] [DecidableEq β] [Datum β] {T : List Slot} {σ : St} {tv : List V} {H G : Hp} {as bs : List Addr} (z : St0 B S T σ tv H G as bs) {p : Addr} (hp : H p = none) {u v : V} {t : α} {r : β} (h1 : Dq G u (Datum.toD t)) (h2 : Dq G v (Datum.toD r)) : Sta B S (.val (t, r) :: T) σ (.ref p :: tv) (upd H p (.tup [u, v])) :=
  z.newG hp (.val (show Dq _ _ (PyData.tuple [Datum.toD t, Datum.toD r]) from .tup upd_same (.cons (dq_mono (ex_upd (Ex.refl G) (ex_none z.sub hp)) h1) (.cons (dq_mono (ex_upd (Ex.refl G) (ex_none z.sub hp)) h2) .nil))))
theorem sl_dq {α : Type} [DecidableEq α] [Datum α] {G H : Hp} {u : V} {as : List Addr} {t : α} (h : SlI G H (.val t) u as) : Dq G u (Datum.toD t) := by
  cases h with
  | val h => exact h
theorem ji_enum {α : Type} [DecidableEq α] [Datum α] {xs : List α} {ok : Stt → Prop} {p tpos : Pos} {elts : List Expr} {kk : Nat} (hm : X.mg "enumerate" = none) (ha : JE X B S e S1 x) (hl : Lv X.K B S1 x (xs.map Slot.val)) (hok : ∀ S, ok S → Lv X.K B S x (xs.map Slot.val)) (hg : Gl X "enumerate" := by rfl) (hst : starEach [e] X.env = (false, eval e X.env) :: starEach [] X.env := by rfl) (hs : starEach [e] X.env = [(false, eval e X.env)] := by rfl) :
    JI X B S (.Tuple elts kk tpos) (.Call (.Name "enumerate" p) [e] [] pos) S1 [x] ((enu 0 xs).map Slot.val) ok := fun T tv σ H R h q =>
  pi1 (pi_enum hg hm pa0 hs) (ja_cons ha ja_nil hst _ _ _ _ _ h fun vs H1 hl' h1 => by
    obtain ⟨v, rfl⟩ : ∃ v, vs = [v] := match vs, hl' with | [v], _ => ⟨v, rfl⟩
    obtain ⟨G, as, bs, z⟩ := id h1
    obtain ⟨p, vs, rfl, hr, hss⟩ := hl z
    refine ⟨p, vs, rfl, hr, q (Ite X.K p) [.ref p] H1 rfl h1 ⟨fun S T σ tv H i s hS hi h => ?_, fun S T σ tv H hS h => ?_⟩⟩
    · obtain ⟨G, as, bs, z⟩ := id h
      obtain ⟨p', vs', e, hr', hss'⟩ := hok S hS z
      cases e
      rw [List.getElem?_map] at hi
      cases qe : (enu 0 xs)[i]? with
      | none => rw [qe] at hi; cases hi
      | some pr =>
        rw [qe] at hi
        cases hi
        obtain ⟨h1, h2⟩ := enu_get 0 xs i qe
        obtain ⟨u, hu, su⟩ := hss'.get i (show (xs.map Slot.val)[i]? = some (Slot.val pr.2) by rw [List.getElem?_map, h2] <;> rfl)
        refine ⟨⟨vs', u, hr', hu⟩, fun v H' hy => ?_⟩
        obtain ⟨T', x', rfl, hT, rfl, hy⟩ := hy
        have e := hy vs' (hr')
        rw [hu] at e
        cases e
        have ei : pr = (((i : Nat) : Int), pr.2) := Prod.ext (by rw [h1]; simp) rfl
        rw [ei]
        exact push_pair z hT (.int _) (sl_dq su)
    · obtain ⟨G, as, bs, z⟩ := id h
      obtain ⟨p', vs', e, hr', hss'⟩ := hok S hS z
      cases e
      refine ⟨vs', hr', Nat.le_of_eq ?_⟩
      have := hss'.len
      rw [List.length_map] at this ⊢
      rw [enu_len]
      exact this.symm)
theorem ji_zip {α β : Type} [DecidableEq α] [Datum α] [DecidableEq β] [Datum β] {xs : List α} {ys : List β} {ok : Stt → Prop} {p tpos : Pos} {elts : List Expr} {kk : Nat} (hm : X.mg "zip" = none) (ha : JE X B S a S1 x) (hb : JE X B S1 b S2 y) (hl : Lv X.K B S2 x (xs.map Slot.val)) (hl2 : Lv X.K B S2 y (ys.map Slot.val)) (hok : ∀ S, ok S → Lv X.K B S x (xs.map Slot.val) ∧ Lv X.K B S y (ys.map Slot.val)) (hx : x.plain = true) (hg : Gl X "zip" := by rfl)
    (hst : starEach [a, b] X.env = (false, eval a X.env) :: starEach [b] X.env := by rfl) (hst2 : starEach [b] X.env = (false, eval b X.env) :: starEach [] X.env := by rfl) (hpl : (backTo pos (starEach [b] X.env)).any (·.1) = false := by rfl) :
    JI X B S (.Tuple elts kk tpos) (.Call (.Name "zip" p) [a, b] [] pos) S2 [x, y] ((xs.zip ys).map Slot.val) ok := fun T tv σ H R h q => by
  have both : ∀ {S : Stt} {T : List Slot} {σ : St} {tv : List V} {H G : Hp} {v u : V} {as bs : List Addr}, Lv X.K B S x (xs.map Slot.val) → Lv X.K B S y (ys.map Slot.val) → St0 B S (x :: y :: T) σ (v :: u :: tv) H G as bs → ∃ a b va vb, v = .ref a ∧ u = .ref b ∧ SqL X.K H a va ∧ SqL X.K H b vb ∧ SsI G H (xs.map Slot.val) va [] ∧ SsI G H (ys.map Slot.val) vb [] := fun h1 h2 z => by
    obtain ⟨a, va, rfl, hr, hs⟩ := h1 z
    obtain ⟨a1, a2, rfl, _, z'⟩ := z.pop
    obtain ⟨b, vb, rfl, hr', hs'⟩ := h2 z'
    exact ⟨a, b, va, vb, rfl, rfl, hr, hr', hs, hs'⟩
  refine pi1 (pi_zip hg hm pa0 hst hpl) (ja_cons ha (ja_cons hb ja_nil hst2) hst _ _ _ _ _ h fun vs H1 hl' h1 => ?_)
  obtain ⟨v, u, rfl⟩ : ∃ v u, vs = [v, u] := match vs, hl' with | [v, u], _ => ⟨v, u, rfl⟩
  obtain ⟨G, as, bs, z⟩ := id h1
  obtain ⟨pa, pb, va, vb, rfl, rfl, hr, hr', hs, hs'⟩ := both hl hl2 z
  refine ⟨pa, pb, va, vb, rfl, hr, hr', q (Itz X.K pa pb) [.ref pa, .ref pb] H1 rfl h1 ⟨fun S T σ tv H i s hS hi h => ?_, fun S T σ tv H hS h => ?_⟩⟩
  · obtain ⟨G, as, bs, z⟩ := id h
    obtain ⟨o1, o2⟩ := hok S hS
    obtain ⟨pa', pb', va', vb', e1, e2, hr, hr', hs, hs'⟩ := both o1 o2 z
    cases e1
    cases e2
    rw [List.getElem?_map] at hi
    cases qe : (xs.zip ys)[i]? with
    | none => rw [qe] at hi; cases hi
    | some pr =>
      rw [qe] at hi
      cases hi
      rw [List.getElem?_zip_eq_some] at qe
      obtain ⟨u1, hu1, su1⟩ := hs.get i (show (xs.map Slot.val)[i]? = some (Slot.val pr.1) by rw [List.getElem?_map, qe.1] <;> rfl)
      obtain ⟨u2, hu2, su2⟩ := hs'.get i (show (ys.map Slot.val)[i]? = some (Slot.val pr.2) by rw [List.getElem?_map, qe.2] <;> rfl)
      refine ⟨⟨va', vb', u1, u2, hr, hr', hu1, hu2⟩, fun v H' hy => ?_⟩
      obtain ⟨T', x', y', rfl, hT, rfl, hy, hy'⟩ := hy
      have e := hy va' (hr)
      have e' := hy' vb' (hr')
      rw [hu1] at e
      rw [hu2] at e'
      cases e
      cases e'
      exact push_pair z hT (sl_dq su1) (sl_dq su2)
  · obtain ⟨G, as, bs, z⟩ := id h
    obtain ⟨o1, o2⟩ := hok S hS
    obtain ⟨pa', pb', va', vb', e1, e2, hr, hr', hs, hs'⟩ := both o1 o2 z
    cases e1
    cases e2
    refine ⟨va', vb', hr, hr', ?_⟩
    have h1 := hs.len
    have h2 := hs'.len
    rw [List.length_map] at h1 h2 ⊢
    rw [List.length_zip]
    omega
structure tgsOf (X : Cx) (ts : List Expr) (vs : List V) (σ : St) (H : Hp) (Q : St → Hp → Prop) : Prop where
  run : ∀ pins s us, Inv X pins σ H s → Vals vs us → wpAny (model X.prog X.w) X.A (assignInOrder ((assignEach ts X.env).map (·.2)) us) (fun _ s' => ∃ σ' H', Inv X pins σ' H' s' ∧ Q σ' H') X.xe s
theorem pgs0 {ts : List Expr} : PGs X ts (tgsOf X ts) := ⟨fun pins s _ _ _ us _ I r h => h.run pins s us I r⟩
theorem pgs1 {ts : List Expr} {t : TGs} (h : PGs X ts t) {vs : List V} {σ : St} {H : Hp} {Q : St → Hp → Prop} (q : t vs σ H Q) : tgsOf X ts vs σ H Q := ⟨fun pins s us I r => h.run pins s σ H vs us Q I r q⟩
def JGs (X : Cx) (B : Base) (S : Stt) (ts : List Expr) (xs : List Slot) (S' : Stt) (ws : List Nat) : Prop := ∀ T tv σ vs H Q, vs.length = xs.length → Sta B S (xs ++ T) σ (vs ++ tv) H → (∀ σ' H', Chg ws σ σ' → Sta B S' T σ' tv H' → Q σ' H') → tgsOf X ts vs σ H Q
theorem jgs_nil : JGs X B S [] [] S [] := fun T tv σ vs H Q hl h q => match vs, hl with
  | [], _ => pgs1 pgs_nil ⟨rfl, q _ _ (Chg.refl _ _) h⟩
theorem jgs_cons {ts : List Expr} {xs : List Slot} {ws ws' : List Nat} (h1 : JG X B S tg x S1 ws) (h2 : JGs X B S1 ts xs S2 ws') (hs : (assignEach (tg :: ts) X.env).map (·.2) = assign tg X.env :: (assignEach ts X.env).map (·.2) := by rfl) : JGs X B S (tg :: ts) (x :: xs) S2 (ws ++ ws') := fun T tv σ vs H Q hl h q => match vs, hl with
  | v :: vs, hl => pgs1 (pgs_cons pg0 pgs0 hs) ⟨v, vs, rfl, h1 _ _ _ _ _ _ h fun σ' H' c g => h2 _ _ _ _ _ _ (Nat.succ.inj hl) g fun σ2 H2 c2 g2 => q σ2 H2 (c.app c2) g2⟩
/-- a tuple's items -/
theorem jg_tup {es : List Expr} {kk : Nat} {α : Type} [DecidableEq α] [Datum α] {t : α} {ds : List PyData} {xs : List Slot} (ht : Datum.toD t = .tuple ds) (hx : ∀ {G H : Hp} {vs : List V}, DqAll G vs ds → SsI G H xs vs []) {ws : List Nat} (h : JGs X B S es xs S1 ws) (hc : X.calm = true := by rfl) (hn : (assignEach es X.env).length = xs.length := by rfl) (hst : (assignEach es X.env).findIdx? (·.1) = none := by rfl) : JG X B S (.Tuple es kk pos) (.val t) S1 ws := fun T tv σ v H Q hs q =>
  pg1 (pg_tup hc pgs0 rfl hst) (by
    obtain ⟨G, as, bs, z⟩ := hs
    obtain ⟨a1, a2, rfl, g, z'⟩ := z.pop
    cases g with
    | val g =>
      rw [ht] at g
      cases g with
      | @tup p vs _ hp ha =>
        have hss : SsI G H xs vs [] := hx ha
        refine ⟨p, vs, rfl, .of (z.sub _ _ hp), by rw [hn, hss.len], ?_⟩
        exact h _ _ _ _ _ _ hss.len.symm ⟨G, [] ++ a2, bs, hss.app z'.tmp, z'.cel, z'.slo, z'.nod, z'.fre, z'.gro, z'.new, z'.sub, z'.frm⟩ q)
theorem jg_pair {e1 e2 : Expr} {kk : Nat} {α β : Type} [DecidableEq α] [Datum α] [DecidableEq β] [Datum β] {t : α × β} {ws : List Nat} (h : JGs X B S [e1, e2] [.val t.1, .val t.2] S1 ws) (hc : X.calm = true := by rfl) (hn : (assignEach [e1, e2] X.env).length = 2 := by rfl) (hst : (assignEach [e1, e2] X.env).findIdx? (·.1) = none := by rfl) : JG X B S (.Tuple [e1, e2] kk pos) (.val t) S1 ws :=
  jg_tup (ds := [Datum.toD t.1, Datum.toD t.2]) rfl (fun h => by
    cases h with
    | cons h1 h2 =>
      cases h2 with
      | cons h2 h3 =>
        cases h3
        exact .cons (as := []) (.val h1) (.cons (as := []) (.val h2) .nil)) h hc hn hst
/-- within the block: the same context but the frame -/
abbrev Blk (X : Cx) (scope : Scope) (P : Cx → Prop) : Prop := ∀ (s : Shared) (H : Hp) (C : Addr) (cl : List (Str × Addr)) (fp : List Addr), P (X.blk s H scope (compEnvC scope cl C X.env) fp)
/-- tests -/
def ttsOf (X : Cx) (ifs : List Expr) : TT := fun σ H Q => ∃ t, PTs X ifs t ∧ t σ H Q
def JTs (X : Cx) (B : Base) (S : Stt) (ifs : List Expr) (S' : Stt) (p : Bool) : Prop := ∀ T tv σ H (Q : Bool → Hp → Prop), Sta B S T σ tv H → (∀ H', Sta B S' T σ tv H' → Q p H') → ∃ t, PTs X ifs t ∧ t σ H Q
theorem jts_nil : JTs X B S [] S true := fun T tv σ H Q hs q => ⟨_, pts_nil, q H hs⟩
theorem jts_one {c : Expr} {p : Bool} (h : JT X B S c S1 p) : JTs X B S [c] S1 p := fun T tv σ H Q hs q => ⟨_, pts_one pt0, h _ _ _ _ _ hs q⟩
def AnyAt (sl : List Slot) (vs : List Nat) : Prop := ∀ i ∈ vs, ∀ s, sl[i]? = some s → s = .any
theorem SgI.wip {G : Hp} {sl : List Slot} {σ : St} {vs : List Nat} (h : AnyAt sl vs) (g : SgI G sl σ) : SgI G sl (wipe σ vs) := by
  refine ⟨by rw [wipe_length]; exact g.1, fun i s hs => ?_⟩
  by_cases hi : i ∈ vs
  · have e := h i hi s hs
    subst e
    have hlt := (List.getElem?_eq_some_iff.mp hs).1
    exact ⟨(wipe σ vs)[i]'(by rw [wipe_length, ← g.1]; exact hlt), List.getElem?_eq_getElem _, trivial⟩
  · rw [wipe_get, if_neg hi]
    exact g.2 i s hs
theorem SgI.unwip {G : Hp} {sl : List Slot} {σ : St} {vs : List Nat} (h : AnyAt sl vs) (g : SgI G sl (wipe σ vs)) : SgI G sl σ := by
  refine ⟨by rw [← wipe_length σ vs]; exact g.1, fun i s hs => ?_⟩
  by_cases hi : i ∈ vs
  · have e := h i hi s hs
    subst e
    have hlt := (List.getElem?_eq_some_iff.mp hs).1
    exact ⟨σ[i]'(by rw [← wipe_length σ vs, ← g.1]; exact hlt), List.getElem?_eq_getElem _, trivial⟩
  · have := g.2 i s hs
    rw [wipe_get, if_neg hi] at this
    exact this
theorem Sta.wip {T : List Slot} {σ : St} {tv : List V} {H : Hp} {vs : List Nat} (h : AnyAt S.sl vs) (g : Sta B S T σ tv H) : Sta B S T (wipe σ vs) tv H := by
  obtain ⟨G, as, bs, z1, z2, z3, z⟩ := g
  exact ⟨G, as, bs, z1, z2, z3.wip h, by assumption, by assumption, by assumption, by assumption, by assumption, by assumption⟩
theorem Sta.unwip {T : List Slot} {σ : St} {tv : List V} {H : Hp} {vs : List Nat} (h : AnyAt S.sl vs) (g : Sta B S T (wipe σ vs) tv H) : Sta B S T σ tv H := by
  obtain ⟨G, as, bs, z1, z2, z3, z4, z5, z6, z7, z8, z9⟩ := g
  exact ⟨G, as, bs, z1, z2, z3.unwip h, z4, z5, z6, z7, z8, z9⟩
def cmpM {ι α β : Type} (f : ι → α → Option (Option β × ι)) : List α → ι → Option (List β × ι)
  | [], s => some ([], s)
  | x :: xs, s => (f s x).bind fun p => (cmpM f xs p.2).bind fun q => some (match p.1 with
    | some y => (y :: q.1, q.2)
    | none => q)
/-- one more item at the end of a list that is laid on top -/
theorem Sta.appT {T : List Slot} {σ : St} {tv : List V} {H : Hp} {acc : List Slot} {v : V} {D : Addr} (h : Sta B S (y :: .own (.lst acc) :: T) σ (v :: .ref D :: tv) H) : ∃ va, H D = some (.lst va) ∧ va.length = acc.length ∧ Sta B S (.own (.lst (acc ++ [y])) :: T) σ (.ref D :: tv) (upd H D (.lst (va ++ [v]))) := by
  obtain ⟨G, as, bs, z⟩ := h
  obtain ⟨a1, a2, rfl, g1, z1⟩ := z.pop
  obtain ⟨a3, a4, rfl, g2, z2⟩ := z1.pop
  cases g2 with
  | @own _ _ o m hD hc =>
    cases hc with
    | @lst _ va _ hs =>
      refine ⟨va, hD, hs.len.symm, ?_⟩
      have nd := z.nod
      have pm : ((D :: (m ++ a1)) ++ a4 ++ bs).Perm (a1 ++ ((D :: m) ++ a4) ++ bs) := by
        refine List.Perm.append_right _ ?_
        have e1 : ((D :: (m ++ a1)) ++ a4).Perm ((a1 ++ (D :: m)) ++ a4) := List.Perm.append_right _ (by
          have : ((D :: m) ++ a1).Perm (a1 ++ (D :: m)) := List.perm_append_comm
          exact this)
        rw [List.append_assoc a1] at e1
        exact e1
      have nd2 := pm.nodup_iff.mpr nd
      have nD : ∀ a ∈ m ++ a1 ++ a4 ++ bs, a ≠ D := fun a ha e => by
        subst e
        have : ((a :: (m ++ a1)) ++ a4 ++ bs) = a :: (m ++ a1 ++ a4 ++ bs) := by simp
        rw [this] at nd2
        exact (List.nodup_cons.mp nd2).1 ha
      have fr := fun a ha => z.fre a (pm.mem_iff.mp ha)
      have hG : G D = none := (fr D (by simp)).1
      have hF : B.F D = none := (fr D (by simp)).2
      have k1 : SsI G (upd H D (.lst (va ++ [v]))) acc va m := hs.mono (Ex.refl G) fun a ha => upd_ne (nD a (by simp [ha]))
      have k2 : SlI G (upd H D (.lst (va ++ [v]))) y v a1 := g1.mono (Ex.refl G) fun a ha => upd_ne (nD a (by simp [ha]))
      exact ⟨G, (D :: (m ++ a1)) ++ a4, bs, .cons (.own upd_same (.lst (k1.app (SsI.one k2)))) (z2.tmp.mono (Ex.refl G) fun a ha => upd_ne (nD a (by simp [ha]))), z2.cel.mono (Ex.refl G) fun a ha => upd_ne (nD a (by simp [ha])), z.slo, nd2, fr, z.gro, z.new,
        fun a u ha => by rw [upd_ne (by intro e; subst e; rw [hG] at ha; cases ha)]; exact z.sub a u ha, fun a u ha => by rw [upd_ne (by intro e; subst e; rw [hF] at ha; cases ha)]; exact z.frm a u ha⟩
abbrev Le (B : Base) (S S' : Stt) : Prop := ∀ T tv σ H, Sta B S T σ tv H → Sta B S' T σ tv H
theorem lc_t {ι α β : Type} [DecidableEq α] [Datum α] {xs : List α} {f : ι → α → Option (Option β × ι)} {el : β → Slot} {Sf : ι → Stt} {Sb : ι → α → Stt} {s0 sE : ι} {ys : List β} {iter elt : Expr} {ifs : List Expr} {scope : Scope} {own : List (Str × Nat)} {zs : List Slot} {ok : Stt → Prop} {ws : List Nat}
    (hf : cmpM f xs s0 = some (ys, sE)) (hlen : xs.length ≤ 16777216) (hN : X.N.Nodup) (hbk : BlkOk X.N X.env.scope scope own)
    (hi : JI X B S tg iter S1 zs (xs.map Slot.val) ok) (h0 : Le B S1 (Sf s0)) (hok : ∀ s, ok (Sf s)) (hv : ∀ s, AnyAt (Sf s).sl (own.map (·.2))) (hws : ∀ i ∈ ws, i ∈ own.map (·.2))
    (hg : ∀ s x, Blk X scope fun Y => JG Y B (Sf s) tg (.val x) (Sb s x) ws)
    (hb : ∀ s x o s', x ∈ xs → f s x = some (o, s') → ∃ (p : Bool) (St : Stt), (Blk X scope fun Y => JTs Y B (Sb s x) ifs St p) ∧ (p = true → ∃ y Se, o = some y ∧ (Blk X scope fun Y => JE Y B St elt Se (el y)) ∧ Le B Se (Sf s')) ∧ (p = false → o = none ∧ Le B St (Sf s')))
    {T : List Slot} {σ : St} {tv : List V} {H : Hp} {Q : VK} (h : Sta B S T σ tv H) (q : ∀ v H', Sta B (Sf sE) (.own (.lst (ys.map el)) :: T) σ (v :: tv) H' → Q v H') : tLc (tiOf X tg iter) (fun v σ H Q => Blk X scope fun Y => tgOf Y tg v σ H Q) (fun σ H Q => Blk X scope fun Y => ttsOf Y ifs σ H Q) (fun σ H Q => Blk X scope fun Y => teOf Y elt σ H Q) (own.map (·.2)) σ H Q :=
  hi _ _ _ _ _ h fun J zv H1 hl h1 wk => fun Dd hD => by
      have hS0 := h0 _ _ _ _ h1
      obtain ⟨G0, as0, bs0, z0⟩ := id hS0
      have start : Sta B (Sf s0) (.own (.lst ([].map el)) :: (zs ++ T)) σ (.ref Dd :: (zv ++ tv)) (upd H1 Dd (.lst [])) := z0.newO hD (.lst .nil)
      refine ⟨fun i m H => m = xs.length - i ∧ i ≤ xs.length ∧ ∃ s acc more, cmpM f (xs.drop i) s = some (more, sE) ∧ ys = acc ++ more ∧ acc.length ≤ i ∧ Sta B (Sf s) (.own (.lst (acc.map el)) :: (zs ++ T)) σ (.ref Dd :: (zv ++ tv)) H, ⟨xs.length, by simp, Nat.zero_le _, s0, [], ys, hf, rfl, Nat.zero_le _, start⟩, ?_⟩
      rintro i m H ⟨rfl, hle, s, acc, more, hm, hys, hacc, hS⟩
      have rotz : ∀ {S : Stt} {s : Slot} {u : V} {σ : St} {H : Hp}, Sta B S (s :: (zs ++ T)) σ (u :: (zv ++ tv)) H → Sta B S (zs ++ s :: T) σ (zv ++ u :: tv) H := fun {S s u σ H} h => by
        obtain ⟨G, as, bs, z⟩ := h
        obtain ⟨a1, a2, rfl, g1, z1⟩ := z.pop
        obtain ⟨a3, a4, rfl, g2, z2⟩ := z1.split hl.symm
        have pm : (a3 ++ (a1 ++ a4) ++ bs).Perm (a1 ++ (a3 ++ a4) ++ bs) := List.Perm.append_right _ (by
          rw [← List.append_assoc, ← List.append_assoc]
          exact List.Perm.append_right _ List.perm_append_comm)
        exact ⟨G, a3 ++ (a1 ++ a4), bs, g2.app (.cons g1 z2.tmp), z.cel, z.slo, pm.nodup_iff.mpr z.nod, fun a ha => z.fre a (pm.mem_iff.mp ha), z.gro, z.new, z.sub, z.frm⟩
      by_cases hlt : i < xs.length
      · rw [List.drop_eq_getElem_cons hlt] at hm
        refine bnd hm fun pr e1 e2 => bnd e2 fun qr e3 e4 => .inr ?_
        obtain ⟨o, s'⟩ := pr
        obtain ⟨more', sE'⟩ := qr
        have hx : (xs.map Slot.val)[i]? = some (Slot.val xs[i]) := by rw [List.getElem?_map, List.getElem?_eq_getElem hlt] <;> rfl
        obtain ⟨w1, w2⟩ := wk.go _ _ _ _ _ i _ (hok s) hx (rotz (hS.wip (hv s)))
        obtain ⟨w1', _⟩ := wk.go _ _ _ _ _ i _ (hok s) hx (rotz hS)
        obtain ⟨p, St, hT, hp1, hp0⟩ := hb s xs[i] o s' (List.getElem_mem hlt) e1
        refine ⟨w1', fun H => i < xs.length ∧ ∃ s acc more, cmpM f (xs.drop (i + 1)) s = some (more, sE) ∧ ys = acc ++ more ∧ acc.length ≤ i + 1 ∧ Sta B (Sf s) (.own (.lst (acc.map el)) :: (zs ++ T)) σ (.ref Dd :: (zv ++ tv)) H, fun H' ⟨_, g⟩ => ⟨xs.length - (i + 1), by omega, rfl, hlt, g⟩, fun v H' hy => ?_⟩
        have hS2 := w2 v H' hy
        -- the item on top, then the list that grows
        have hS3 : Sta B (Sf s) (.val xs[i] :: .own (.lst (acc.map el)) :: (zs ++ T)) (wipe σ (own.map (·.2))) (v :: .ref Dd :: (zv ++ tv)) H' := by
          obtain ⟨G, as, bs, z⟩ := hS2
          obtain ⟨a1, a2, rfl, g1, z1⟩ := z.pop
          obtain ⟨a3, a4, rfl, g2, z2⟩ := z1.split hl.symm
          obtain ⟨a5, a6, rfl, g3, z3⟩ := z2.pop
          have pm : (a1 ++ (a5 ++ (a3 ++ a6)) ++ bs).Perm (a1 ++ (a3 ++ (a5 ++ a6)) ++ bs) := List.Perm.append_right _ (List.Perm.append_left _ (by
            rw [← List.append_assoc, ← List.append_assoc]
            exact List.Perm.append_right _ List.perm_append_comm))
          exact ⟨G, a1 ++ (a5 ++ (a3 ++ a6)), bs, .cons g1 (.cons g3 (g2.app z3.tmp)), z.cel, z.slo, pm.nodup_iff.mpr z.nod, fun a ha => z.fre a (pm.mem_iff.mp ha), z.gro, z.new, z.sub, z.frm⟩
        intro s1 H01 C1 cl1 fp1
        refine hg s xs[i] s1 H01 C1 cl1 fp1 _ _ _ _ _ _ hS3 fun σ2 H2 chg h2 => ⟨?_, ?_⟩
        · rw [chg _ hws, wipe_wipe]
        · have back : ∀ {S : Stt} {T : List Slot} {tv : List V} {H : Hp} {s : ι}, Sta B S T σ2 tv H → Le B S (Sf s) → Sta B (Sf s) T σ tv H := fun {S T tv H s} h hle => by
            have h3 := (hle _ _ _ _ h).wip (hv s)
            rw [chg _ hws, wipe_wipe] at h3
            exact h3.unwip (hv s)
          intro s2 H02 C2 cl2 fp2
          refine hT s2 H02 C2 cl2 fp2 _ _ _ _ _ h2 fun H3 h3 => ?_
          cases p with
          | true =>
            rw [if_pos rfl]
            obtain ⟨y, Se, rfl, he, hle'⟩ := hp1 rfl
            intro s3 H03 C3 cl3 fp3
            refine he s3 H03 C3 cl3 fp3 _ _ _ _ _ h3 fun w H4 h4 => ?_
            obtain ⟨va, hDv, hvl, h5⟩ := Sta.appT h4
            refine ⟨va, hDv, ?_, hlt, s', acc ++ [y], more', ?_, ?_, ?_, ?_⟩
            · rw [hvl, List.length_map]
              exact Nat.lt_of_lt_of_le (Nat.lt_of_le_of_lt hacc hlt) hlen
            · have e5 : (y :: more', sE') = (more, sE) := Option.some.inj e4
              cases e5
              exact e3
            · have e5 : (y :: more', sE') = (more, sE) := Option.some.inj e4
              cases e5
              rw [hys, List.append_assoc]
              rfl
            · rw [List.length_append]
              exact Nat.succ_le_succ hacc
            · rw [List.map_append]
              exact back h5 hle'
          | false =>
            rw [if_neg (by decide)]
            obtain ⟨rfl, hle'⟩ := hp0 rfl
            have e5 : (more', sE') = (more, sE) := Option.some.inj e4
            cases e5
            exact ⟨hlt, s', acc, _, e3, hys, Nat.le_succ_of_le hacc, back h3 hle'⟩
      · have e : i = xs.length := by omega
        subst e
        rw [List.drop_length] at hm
        have e5 : (([] : List β), s) = (more, sE) := Option.some.inj hm
        cases e5
        have st := wk.stop _ _ _ _ _ (hok _) (rotz hS)
        rw [List.length_map] at st
        rw [List.append_nil] at hys
        subst hys
        refine .inl ⟨st, q _ _ ?_⟩
        obtain ⟨G, as, bs, z⟩ := hS
        obtain ⟨a1, a2, rfl, g1, z1⟩ := z.pop
        obtain ⟨a3, a4, rfl, g2, z2⟩ := z1.split hl.symm
        have sub : (a1 ++ a4 ++ bs).Sublist (a1 ++ (a3 ++ a4) ++ bs) := ((List.Sublist.refl a1).append (List.sublist_append_right a3 a4)).append (List.Sublist.refl bs)
        exact ⟨G, a1 ++ a4, bs, .cons g1 z2.tmp, z.cel, z.slo, sub.nodup z.nod, fun a ha => z.fre a (sub.mem ha), z.gro, z.new, z.sub, z.frm⟩
theorem je_lc {ι α β : Type} [DecidableEq α] [Datum α] {xs : List α} {f : ι → α → Option (Option β × ι)} {el : β → Slot} {Sf : ι → Stt} {Sb : ι → α → Stt} {s0 sE : ι} {ys : List β} {iter elt : Expr} {ifs : List Expr} {scope : Scope} {own : List (Str × Nat)} {zs : List Slot} {ok : Stt → Prop} {ws : List Nat}
    (hf : cmpM f xs s0 = some (ys, sE)) (hlen : xs.length ≤ 16777216) (hN : X.N.Nodup) (hbk : BlkOk X.N X.env.scope scope own)
    (hi : JI X B S tg iter S1 zs (xs.map Slot.val) ok) (h0 : Le B S1 (Sf s0)) (hok : ∀ s, ok (Sf s)) (hv : ∀ s, AnyAt (Sf s).sl (own.map (·.2))) (hws : ∀ i ∈ ws, i ∈ own.map (·.2))
    (hg : ∀ s x, Blk X scope fun Y => JG Y B (Sf s) tg (.val x) (Sb s x) ws)
    (hb : ∀ s x o s', x ∈ xs → f s x = some (o, s') → ∃ (p : Bool) (St : Stt), (Blk X scope fun Y => JTs Y B (Sb s x) ifs St p) ∧ (p = true → ∃ y Se, o = some y ∧ (Blk X scope fun Y => JE Y B St elt Se (el y)) ∧ Le B Se (Sf s')) ∧ (p = false → o = none ∧ Le B St (Sf s')))
    (hc : X.calm = true := by rfl) (hs : ∀ x, foldedSetIterable iter X.env x = pure x := by intro _; rfl) : JE X B S (.ListComp elt [⟨tg, iter, ifs, 0⟩] scope pos) (Sf sE) (.own (.lst (ys.map el))) := fun T tv σ H Q h q =>
  pe1 (pe_lc (g := (fun v σ H Q => Blk X scope fun Y => tgOf Y tg v σ H Q)) (tt := (fun σ H Q => Blk X scope fun Y => ttsOf Y ifs σ H Q)) (te := (fun σ H Q => Blk X scope fun Y => teOf Y elt σ H Q)) hc hN pi0 hbk (fun s H C cl fp => ⟨fun pins s' σ H' v u Q I r h => (h s H C cl fp).run pins s' u I r⟩) (fun s H C cl fp => ⟨fun pins s' σ H' Q I h => let ⟨_, hp, h'⟩ := h s H C cl fp; hp.run pins s' σ H' Q I h'⟩) (fun s H C cl fp => ⟨fun pins s' σ H' Q I h => (h s H C cl fp).run pins s' I⟩) hs) (lc_t hf hlen hN hbk hi h0 hok hv hws hg hb h q)
theorem js_setLc (j : Nat) {n : Str} {pos2 : Pos} {z : Slot} {ι α β : Type} [DecidableEq α] [Datum α] {xs : List α} {f : ι → α → Option (Option β × ι)} {el : β → Slot} {Sf : ι → Stt} {Sb : ι → α → Stt} {s0 sE : ι} {ys : List β} {iter elt : Expr} {ifs : List Expr} {scope : Scope} {own : List (Str × Nat)} {zs : List Slot} {ok : Stt → Prop} {ws : List Nat}
    (hf : cmpM f xs s0 = some (ys, sE)) (hlen : xs.length ≤ 16777216) (hN : X.N.Nodup) (hbk : BlkOk X.N X.env.scope scope own)
    (hi : JI X B S tg iter S1 zs (xs.map Slot.val) ok) (h0 : Le B S1 (Sf s0)) (hok : ∀ s, ok (Sf s)) (hv : ∀ s, AnyAt (Sf s).sl (own.map (·.2))) (hws : ∀ i ∈ ws, i ∈ own.map (·.2))
    (hg : ∀ s x, Blk X scope fun Y => JG Y B (Sf s) tg (.val x) (Sb s x) ws)
    (hb : ∀ s x o s', x ∈ xs → f s x = some (o, s') → ∃ (p : Bool) (St : Stt), (Blk X scope fun Y => JTs Y B (Sb s x) ifs St p) ∧ (p = true → ∃ y Se, o = some y ∧ (Blk X scope fun Y => JE Y B St elt Se (el y)) ∧ Le B Se (Sf s')) ∧ (p = false → o = none ∧ Le B St (Sf s')))
    (hz : ∀ {T : List Slot} {σ : St} {tv : List V} {v : V} {H : Hp}, Sta B (Sf sE) (.own (.lst (ys.map el)) :: T) σ (v :: tv) H → Sta B (Sf sE) (z :: T) σ (v :: tv) H) (k : JS X B ⟨(Sf sE).sl.set j z, (Sf sE).cs⟩ rest D) (hp : z.plain = true := by rfl) (hc : X.calm = true := by rfl) (hs : ∀ x, foldedSetIterable iter X.env x = pure x := by intro _; rfl) (hj : X.N[j]? = some n := by rfl) (hyl : X.env.scope.names.lookup n = some .local := by rfl) (hsw : swapsWith (.ListComp elt [⟨tg, iter, ifs, 0⟩] scope pos) (some (.Name n pos2)) apos.line X.env = pure true := by rfl) : JS X B S (.Assign [.Name n pos2] (.ListComp elt [⟨tg, iter, ifs, 0⟩] scope pos) apos :: rest) D :=
  js_step (ps_setLc (g := (fun v σ H Q => Blk X scope fun Y => tgOf Y tg v σ H Q)) (tt := (fun σ H Q => Blk X scope fun Y => ttsOf Y ifs σ H Q)) (te := (fun σ H Q => Blk X scope fun Y => teOf Y elt σ H Q)) hc hN hj hyl hsw pi0 hbk (fun s H C cl fp => ⟨fun pins s' σ H' v u Q I r h => (h s H C cl fp).run pins s' u I r⟩) (fun s H C cl fp => ⟨fun pins s' σ H' Q I h => let ⟨_, hp, h'⟩ := h s H C cl fp; hp.run pins s' σ H' Q I h'⟩) (fun s H C cl fp => ⟨fun pins s' σ H' Q I h => (h s H C cl fp).run pins s' I⟩) hs) fun T tv σ H h => lc_t hf hlen hN hbk hi h0 hok hv hws hg hb h fun v H1 h1 => k _ _ _ _ ((hz h1).set hp j)
end
end J
namespace J
universe u w
open PySem L2
open PySem.W (Datum DatumOrd Holds HoldAll T3 T4)
inductive Pk : List (Addr × Cel) → List (Addr × Cel) → List (Addr × Cel) → Prop where
  | nil {cs : List (Addr × Cel)} : Pk cs [] cs
  | cons (i : Nat) {cs ds cs' : List (Addr × Cel)} {p : Addr} {c : Cel} : cs[i]? = some (p, c) → c ≠ .gone → Pk (cs.set i (p, .gone)) ds cs' → Pk cs ((p, c) :: ds) cs'
inductive Pt : List (Addr × Cel) → List (Addr × Cel) → List (Addr × Cel) → Prop where
  | nil {cs : List (Addr × Cel)} : Pt cs [] cs
  | cons (i : Nat) {cs ds cs' : List (Addr × Cel)} {p q : Addr} {c : Cel} : cs[i]? = some (q, .gone) → Pt (cs.set i (p, c)) ds cs' → Pt cs ((p, c) :: ds) cs'
section
variable {G H : Hp}
theorem CsI.takes : ∀ {cs ds cs' : List (Addr × Cel)} {bs : List Addr}, Pk cs ds cs' → CsI G H cs bs → ∃ b1 b2, CsI G H ds b1 ∧ CsI G H cs' b2 ∧ (b1 ++ b2).Perm bs
  | _, _, _, bs, .nil, h => ⟨[], bs, .nil, h, List.Perm.refl _⟩
  | _, _, _, _, .cons (p := p) i hi hg hk, h => by
    obtain ⟨l, o, m, r, rfl, hp, hc, reb⟩ := h.at i hi hg
    obtain ⟨b1, b2, h1, h2, pm⟩ := CsI.takes hk ((reb (Ex.refl G) fun _ _ => rfl).2 _)
    refine ⟨_, b2, .cons hp hc h1, h2, ?_⟩
    have e1 : ((p :: (m ++ b1)) ++ b2).Perm ((p :: m) ++ (b1 ++ b2)) := by
      rw [List.cons_append, List.append_assoc]
      exact List.Perm.refl _
    have e2 := List.Perm.append_left (p :: m) pm
    have e3 : ((p :: m) ++ (l ++ r)).Perm (l ++ (p :: m) ++ r) := by
      rw [← List.append_assoc]
      exact List.Perm.append_right _ List.perm_append_comm
    exact e1.trans (e2.trans e3)
theorem CsI.put1 : ∀ {cs : List (Addr × Cel)} {bs : List Addr} (i : Nat) {p q : Addr} {c : Cel} {o : HO} {m : List Addr}, CsI G H cs bs → cs[i]? = some (q, .gone) → H p = some o → CeI G H c o m → ∃ b, CsI G H (cs.set i (p, c)) b ∧ b.Perm ((p :: m) ++ bs)
  | [], _, _, _, _, _, _, _, _, e, _, _ => by simp at e
  | (q0, c0) :: cs, bs, 0, p, q, c, o, m, h, e, hp, hc => by
    have e1 := Option.some.inj (show some (q0, c0) = some (q, Cel.gone) from e)
    cases e1
    cases h with
    | gone h => exact ⟨_, .cons hp hc h, List.Perm.refl _⟩
    | cons _ hc' _ => cases hc'
  | (q0, c0) :: cs, bs, i + 1, p, q, c, o, m, h, e, hp, hc => by
    have e1 : cs[i]? = some (q, Cel.gone) := e
    cases h with
    | gone h =>
      obtain ⟨b, h1, pm⟩ := CsI.put1 i h e1 hp hc
      exact ⟨b, .gone h1, pm⟩
    | @cons _ _ o1 as _ bs hp1 hc1 h =>
      obtain ⟨b, h1, pm⟩ := CsI.put1 i h e1 hp hc
      refine ⟨_, .cons hp1 hc1 h1, ?_⟩
      have e2 : (q0 :: (as ++ b)).Perm ((q0 :: as) ++ ((p :: m) ++ bs)) := List.Perm.append_left (q0 :: as) pm
      refine e2.trans ?_
      have e3 : ((q0 :: as) ++ ((p :: m) ++ bs)).Perm ((p :: m) ++ ((q0 :: as) ++ bs)) := by
        rw [← List.append_assoc, ← List.append_assoc]
        exact List.Perm.append_right _ List.perm_append_comm
      exact e3
theorem CsI.puts : ∀ {cs ds cs' : List (Addr × Cel)} {b1 b2 : List Addr}, Pt cs ds cs' → CsI G H cs b2 → CsI G H ds b1 → ∃ b, CsI G H cs' b ∧ b.Perm (b1 ++ b2)
  | _, _, _, _, b2, .nil, h, hd => by cases hd; exact ⟨b2, h, List.Perm.refl _⟩
  | _, _, _, _, b2, .cons (c := c) i hi hk, h, hd => by
    cases hd with
    | gone hd =>
      -- a hole is put back as a hole
      have e : ∀ {cs : List (Addr × Cel)} {bs : List Addr} (i : Nat) {p q : Addr}, CsI G H cs bs → cs[i]? = some (q, .gone) → CsI G H (cs.set i (p, .gone)) bs := fun {cs bs} => by
        induction cs generalizing bs with
        | nil => intro i p q _ e; simp at e
        | cons a cs ih =>
          intro i p q h e
          cases i with
          | zero =>
            have e1 := Option.some.inj (show some a = some (q, Cel.gone) from e)
            subst e1
            cases h with
            | gone h => exact .gone h
            | cons _ hc _ => cases hc
          | succ i =>
            cases h with
            | gone h => exact .gone (ih i h e)
            | cons h1 h2 h => exact .cons h1 h2 (ih i h e)
      exact CsI.puts hk (e i h hi) hd
    | @cons p _ o m _ bs hp hc hd =>
      obtain ⟨b, h1, pm⟩ := CsI.put1 i h hi hp hc
      obtain ⟨b', h2, pm2⟩ := CsI.puts hk h1 hd
      refine ⟨b', h2, pm2.trans ?_⟩
      have e1 := List.Perm.append_left bs pm
      refine e1.trans ?_
      rw [← List.append_assoc]
      refine List.Perm.append_right _ ?_
      exact List.perm_append_comm
end
/-- the promise of a def: for each g that meets pre, arguments and cells; handed back: res, the cells -/
structure FS (γ : Type) : Type 1 where
  pre : γ → Prop := fun _ => True
  preG : γ → Hp → Prop := fun _ _ => True
  args : γ → List Slot
  cells : γ → List (Addr × Cel) := fun _ => []
  res : γ → Slot
  cells' : γ → List (Addr × Cel) := fun _ => []
def FS.sp {γ : Type} (f : FS γ) : Sp := fun vs H Q _ => ∃ (g : γ) (B : Base), f.pre g ∧ f.preG g B.G ∧ Sta B ⟨[], f.cells g⟩ (f.args g) [] vs H ∧ ∀ v H', Out B (f.res g) (f.cells' g) v H' → Q v H'
/-- from a state: the def's promise may be asked -/
theorem sp_of {γ : Type} (f : FS γ) {B : Base} {S : Stt} {xs T : List Slot} {σ : St} {vs tv : List V} {H : Hp} {cs1 cs2 : List (Addr × Cel)} {Q : VK} {E : XK} (g : γ) (hpre : f.pre g) (hG : ∀ G', Ex B.G G' → f.preG g G') (ha : f.args g = xs) (hl : vs.length = xs.length) (hk : Pk S.cs (f.cells g) cs1) (hb : Pt cs1 (f.cells' g) cs2)
    (hs : Sta B S (xs ++ T) σ (vs ++ tv) H) (q : ∀ w H', Sta B ⟨S.sl, cs2⟩ (f.res g :: T) σ (w :: tv) H' → Q w H') : f.sp vs H Q E := by
  obtain ⟨G, as, bs, z⟩ := hs
  obtain ⟨a1, a2, rfl, g1, z'⟩ := z.split hl.symm
  obtain ⟨b1, b2, c1, c2, pm⟩ := CsI.takes hk z.cel
  have nd : (a1 ++ a2 ++ (b1 ++ b2)).Nodup := (List.Perm.append_left _ pm).nodup_iff.mpr z.nod
  have pm2 : ((a1 ++ b1) ++ (a2 ++ b2)).Perm (a1 ++ a2 ++ (b1 ++ b2)) := by
    rw [List.append_assoc, List.append_assoc]
    refine List.Perm.append_left _ ?_
    rw [← List.append_assoc, ← List.append_assoc]
    exact List.Perm.append_right _ List.perm_append_comm
  have nd2 := pm2.nodup_iff.mpr nd
  have fr : ∀ a ∈ (a1 ++ b1) ++ (a2 ++ b2), G a = none ∧ B.F a = none := fun a ha => z.fre a ((List.Perm.append_left _ pm).mem_iff.mp (pm2.mem_iff.mp ha))
  have dis := (List.nodup_append.mp nd2).2.2
  have nt2 : ∀ a ∈ a2 ++ b2, ∃ o, H a = some o ∧ NT o := fun a ha => (List.mem_append.mp ha).elim (fun h => z'.tmp.nt a h) fun h => c2.nt a h
  have def2 : ∀ a ∈ a2 ++ b2, ∃ o, H a = some o := fun a ha => (List.mem_append.mp ha).elim (fun h => z'.tmp.def a h) fun h => c2.def a h
  refine ⟨g, ⟨G, fun a => if a ∈ a2 ++ b2 then H a else B.F a⟩, hpre, hG G z.gro, ?_, fun v H' ho => ?_⟩
  · rw [ha]
    refine ⟨G, a1, b1, g1, c1, ⟨rfl, fun i s hs => by simp at hs⟩, (List.nodup_append.mp nd2).1, fun a ha => ⟨(fr a (List.mem_append_left _ ha)).1, ?_⟩, Ex.refl G, fun a o h => .inl h, z.sub, fun a o h => ?_⟩
    · show (if a ∈ a2 ++ b2 then H a else B.F a) = none
      rw [if_neg (fun h => dis a ha a h rfl)]
      exact (fr a (List.mem_append_left _ ha)).2
    · have h' : (if a ∈ a2 ++ b2 then H a else B.F a) = some o := h
      by_cases hm : a ∈ a2 ++ b2
      · rw [if_pos hm] at h'; exact h'
      · rw [if_neg hm] at h'; exact z.frm a o h'
  · obtain ⟨G', as', bs', y⟩ := ho
    have keep : ∀ a ∈ a2 ++ b2, H' a = H a := fun a ha => by
      obtain ⟨o, e⟩ := def2 a ha
      rw [e]
      exact y.frm a o (show (if a ∈ a2 ++ b2 then H a else B.F a) = some o by rw [if_pos ha]; exact e)
    have eg : Ex G G' := y.gro
    have y1 := y.tmp
    cases y1 with
    | @cons _ _ r1 _ _ r2 s1 s2 =>
      cases s2
      have y1' : SsI G' H' (f.res g :: T) (v :: tv) (r1 ++ a2) := .cons s1 (z'.tmp.mono eg fun a ha => keep a (List.mem_append_left _ ha))
      obtain ⟨b, cb, pb⟩ := CsI.puts hb (c2.mono eg fun a ha => keep a (List.mem_append_right _ ha)) y.cel
      have own' : ∀ a ∈ r1 ++ [] ++ bs', G' a = none ∧ a ∉ a2 ++ b2 ∧ B.F a = none := fun a ha => by
        obtain ⟨h1, h2⟩ := y.fre a ha
        have h2' : (if a ∈ a2 ++ b2 then H a else B.F a) = none := h2
        by_cases hm : a ∈ a2 ++ b2
        · rw [if_pos hm] at h2'
          obtain ⟨o, e⟩ := def2 a hm
          rw [e] at h2'
          cases h2'
        · rw [if_neg hm] at h2'
          exact ⟨h1, hm, h2'⟩
      have old' : ∀ a ∈ a2 ++ b2, G' a = none ∧ B.F a = none := fun a ha => by
        have f2 := fr a (List.mem_append_right _ ha)
        refine ⟨?_, f2.2⟩
        cases hq : G' a with
        | none => rfl
        | some o =>
          rcases y.new a o hq with h | h | ⟨xs, rfl⟩
          · have h' : G a = some o := h
            rw [f2.1] at h'
            cases h'
          · have h' : (if a ∈ a2 ++ b2 then H a else B.F a) = none := h
            rw [if_pos ha] at h'
            obtain ⟨o', e⟩ := def2 a ha
            rw [e] at h'
            cases h'
          · obtain ⟨o', e, n⟩ := nt2 a ha
            have h1 := y.sub a _ hq
            rw [keep a ha, e] at h1
            cases h1
            exact absurd rfl (n xs)
      have pm3 : (r1 ++ a2 ++ b).Perm ((r1 ++ [] ++ bs') ++ (a2 ++ b2)) := by
        have e1 := List.Perm.append_left (r1 ++ a2) pb
        refine e1.trans ?_
        rw [List.append_nil, List.append_assoc, List.append_assoc]
        refine List.Perm.append_left _ ?_
        rw [← List.append_assoc, ← List.append_assoc]
        exact List.Perm.append_right _ List.perm_append_comm
      have nd3 : (r1 ++ a2 ++ b).Nodup := pm3.nodup_iff.mpr (List.nodup_append.mpr ⟨y.nod, (List.nodup_append.mp nd2).2.1, fun a ha c hc e => (own' a ha).2.1 (e ▸ hc)⟩)
      refine q v H' ⟨G', r1 ++ a2, b, y1', cb, z.slo.mono eg, nd3, fun a ha => ?_, z.gro.trans eg, fun a o h => ?_, y.sub, fun a o h => ?_⟩
      · rcases List.mem_append.mp (pm3.mem_iff.mp ha) with h | h
        · exact ⟨(own' a h).1, (own' a h).2.2⟩
        · exact old' a h
      · rcases y.new a o h with h2 | h2 | h2
        · exact z.new a o h2
        · have h' : (if a ∈ a2 ++ b2 then H a else B.F a) = none := h2
          by_cases hm : a ∈ a2 ++ b2
          · rw [if_pos hm] at h'
            obtain ⟨o', e⟩ := def2 a hm
            rw [e] at h'
            cases h'
          · rw [if_neg hm] at h'
            exact .inr (.inl h')
        · exact .inr (.inr h2)
      · refine y.frm a o ?_
        show (if a ∈ a2 ++ b2 then H a else B.F a) = some o
        by_cases hm : a ∈ a2 ++ b2
        · rw [(fr a (List.mem_append_right _ hm)).2] at h
          cases h
        · rw [if_neg hm]
          exact h
section
variable {X : Cx} {B : Base} {S S1 S2 S3 : Stt} {x y z : Slot} {a b e o : Expr} {es : List Expr} {pos apos : Pos} {D : FE} {rest : List Stmt} {k : Nat} {tg : Expr}
/-- f(e, ..), a def of the text -/
theorem je_call {γ : Type} {f : FS γ} {fa : Addr} {fd : FuncData} {ps : List Str} {n : Str} {p : Pos} {xs : List Slot} {cs1 cs2 : List (Addr × Cel)} (F : FnOk X.prog X.w X.K X.mg X.base CX0 k fa fd ps f.sp) {lv : Nat} (hr : Room lv X.A) (hlv : k ≤ lv) (hm : X.mg n = some (.ref fa)) (hk : PySem.W.keepIn X.K (.ref fa) = true) (hb : Binds X.K fd ps [])
    (ha : JA X B S (e :: es) S1 xs) (g : γ) (hpre : f.pre g) (hx : f.args g = xs) (hpk : Pk S1.cs (f.cells g) cs1) (hpt : Pt cs1 (f.cells' g) cs2) (hG : ∀ G', Ex B.G G' → f.preG g G' := by exact fun _ _ => trivial) (hg : Gl X n := by rfl) (hdb : (n == ("__debug__" : Str)) = false := by decide) (he : starEach (e :: es) X.env = (false, eval e X.env) :: starEach es X.env := by rfl) (hpl : (backTo pos (starEach es X.env)).any (·.1) = false := by rfl) :
    JE X B S (.Call (.Name n p) (e :: es) [] pos) ⟨S1.sl, cs2⟩ (f.res g) := fun T tv σ H Q h q =>
  pe1 (pe_call F (hr.mono hlv) hg hm hk hb .nil pass0 pa0 hdb he hpl) (ha _ _ _ _ _ h fun vs H1 hl h1 => by
    rw [List.append_nil]
    exact sp_of f g hpre hG hx hl hpk hpt h1 q)
theorem SsI.slots {G H : Hp} : ∀ {ss : List Slot} {vs : List V} {as : List Addr}, SsI G H ss vs as → (∀ s ∈ ss, s.plain = true) → ∀ (i : Nat) s, ss[i]? = some s → ∃ u, vs[i]? = some u ∧ SlOk G s (some u)
  | _, _, _, .nil, _, i, s, h => by simp at h
  | _, _, _, .cons (u := u) h1 h2, hp, 0, s, h => by
    have e := Option.some.inj (show some _ = some s from h)
    subst e
    exact ⟨u, rfl, h1.ok (hp _ List.mem_cons_self)⟩
  | _, _, _, .cons h1 h2, hp, i + 1, s, h => SsI.slots h2 (fun s hs => hp s (List.mem_cons_of_mem _ hs)) i s h
theorem Sta.enter {xs : List Slot} {vs : List V} {H : Hp} {cs : List (Addr × Cel)} {N : List Str} (h : Sta B ⟨[], cs⟩ xs [] vs H) (hp : ∀ s ∈ xs, s.plain = true) : Sta B ⟨xs ++ List.replicate (N.length - xs.length) .any, cs⟩ [] (start N vs) [] H := by
  obtain ⟨G, as, bs, z⟩ := h
  have hl := z.tmp.len
  have e := z.tmp.plain hp
  subst e
  refine ⟨G, [], bs, .nil, z.cel, ⟨?_, fun i s hs => ?_⟩, z.nod, z.fre, z.gro, z.new, z.sub, z.frm⟩
  · show (xs ++ List.replicate (N.length - xs.length) Slot.any).length = (vs.map some ++ List.replicate (N.length - vs.length) none).length
    rw [List.length_append, List.length_append, List.length_map, List.length_replicate, List.length_replicate, hl]
  · show ∃ o, (vs.map some ++ List.replicate (N.length - vs.length) none)[i]? = some o ∧ SlOk G s o
    by_cases hi : i < xs.length
    · rw [List.getElem?_append_left hi] at hs
      obtain ⟨u, h1, h2⟩ := z.tmp.slots hp i s hs
      exact ⟨some u, by rw [List.getElem?_append_left (by rw [List.length_map]; omega), List.getElem?_map, h1] <;> rfl, h2⟩
    · rw [List.getElem?_append_right (by omega), List.getElem?_replicate] at hs
      split at hs
      · cases hs
        refine ⟨none, ?_, trivial⟩
        rw [List.getElem?_append_right (by rw [List.length_map]; omega), List.getElem?_replicate, List.length_map, if_pos (by omega)]
      · cases hs
theorem tb_mono {st : List Stmt} {D D' : Ends} {σ : St} {H : Hp} (h : tbOf X st D σ H) (h1 : ∀ σ H, D.nx σ H → D'.nx σ H) (h2 : ∀ v H, D.rt v H → D'.rt v H) (h3 : ∀ σ H, D.bk σ H → D'.bk σ H) (h4 : ∀ σ H, D.ct σ H → D'.ct σ H) : tbOf X st D' σ H := ⟨fun pins s I => thn (h.run pins s I) fun f s1 q => by
  cases f with
  | next => obtain ⟨σ', H', I', q⟩ := q; exact ⟨σ', H', I', h1 _ _ q⟩
  | brk => obtain ⟨σ', H', I', q⟩ := q; exact ⟨σ', H', I', h3 _ _ q⟩
  | cont => obtain ⟨σ', H', I', q⟩ := q; exact ⟨σ', H', I', h4 _ _ q⟩
  | ret u => obtain ⟨v, σ', H', I', r, q⟩ := q; exact ⟨v, σ', H', I', r, h2 _ _ q⟩⟩
/-- what a body is to reach -/
abbrev fend {γ : Type} (B : Base) (f : FS γ) (g : γ) : FE := { nx := fun T tv σ H => Out B (f.res g) (f.cells' g) .non H, rt := Out B (f.res g) (f.cells' g) }
abbrev fctx (P : Program) (w : World) (K : PySem.W.Frag) (mg : Str → Option Value) (base : Heap) (N : List Str) (qual : Str) (sc : Scope) (fa : Addr) (cdv : Value) (A : Around) (outer : List Env) (s : Shared) (H : Hp) (E : XK) : Cx := (cxOf CX0 P w K mg base N qual sc fa cdv A outer s H E).nox
end
end J
namespace J
universe u w
open PySem L2
open PySem.W (Datum DatumOrd Holds HoldAll T3 T4)
def mulG (i j : Int) : Option Int := if ((-(18446744073709551616) < i ∧ i < 18446744073709551616) ∨ (-(18446744073709551616) < j ∧ j < 18446744073709551616)) then some (i * j) else none
def divG (i j : Int) : Option Int := if 0 < j ∧ j < 18446744073709551616 then some (i / j) else none
def modG (i j : Int) : Option Int := if 0 < j then some (i % j) else none
def powG (i : Int) (n : Nat) : Option Int := if i.natAbs < 18446744073709551616 then some (i ^ n) else none
def andM (p : Bool) (m : Option Bool) : Option Bool := if p = true then m else some false
def orM (p : Bool) (m : Option Bool) : Option Bool := if p = true then some true else m
def ifM {α : Type} (p : Bool) (m n : Option α) : Option α := if p = true then m else n
theorem ifT {α : Type} {p : Bool} {a b c : α} (hp : p = true) (h : (if p = true then a else b) = c) : a = c := by rw [if_pos hp] at h; exact h
theorem ifF {α : Type} {p : Bool} {a b c : α} (hp : p = false) (h : (if p = true then a else b) = c) : b = c := by rw [if_neg (by rw [hp]; decide)] at h; exact h
section
variable {G H : Hp}
def Cel.nth : Cel → Nat → Option Slot
  | .lst ss, j => ss[j]?
  | .ins _ fs, j => (fs[j]?).map (·.2)
  | .dk _ ss, j => ss[j]?
  | .fdk _ _ ss, j => ss[j]?
  | .gone, _ => none
  | .say _, _ => none
  | .ex _, _ => none
def setF2 {α β : Type _} (fs : List (α × β)) (j : Nat) (y : β) : List (α × β) := match fs, j with
  | [], _ => []
  | (a, _) :: r, 0 => (a, y) :: r
  | p :: r, j + 1 => p :: setF2 r j y
def Cel.sub : Cel → Nat → Slot → Cel
  | .lst ss, j, y => .lst (ss.set j y)
  | .ins C fs, j, y => .ins C (setF2 fs j y)
  | .dk ks ss, j, y => .dk ks (ss.set j y)
  | .fdk o ks ss, j, y => .fdk o ks (ss.set j y)
  | .gone, _, _ => .gone
  | .say ψ, _, _ => .say ψ
  | .ex f, _, _ => .ex f
theorem setF2_snd {α β : Type _} : ∀ (fs : List (α × β)) (j : Nat) (y : β), (setF2 fs j y).map (·.2) = (fs.map (·.2)).set j y
  | [], _, _ => by simp [setF2]
  | (a, b) :: r, 0, y => rfl
  | p :: r, j + 1, y => by
    show p.2 :: (setF2 r j y).map (·.2) = p.2 :: (r.map (·.2)).set j y
    rw [setF2_snd r j y]
theorem setF2_fst {α β : Type _} : ∀ (fs : List (α × β)) (j : Nat) (y : β), (setF2 fs j y).map (·.1) = fs.map (·.1)
  | [], _, _ => by simp [setF2]
  | (a, b) :: r, 0, y => rfl
  | p :: r, j + 1, y => by
    show p.1 :: (setF2 r j y).map (·.1) = p.1 :: r.map (·.1)
    rw [setF2_fst r j y]
/-- the j-th slot taken out of a row, another one put in -/
theorem SsI.part : ∀ {ss : List Slot} {vs : List V} {as : List Addr} (j : Nat) {s : Slot}, SsI G H ss vs as → ss[j]? = some s → ∃ a1 u m a2, as = a1 ++ m ++ a2 ∧ vs[j]? = some u ∧ SlI G H s u m ∧ ∀ {s' m'}, SlI G H s' u m' → SsI G H (ss.set j s') vs (a1 ++ m' ++ a2)
  | [], _, _, _, _, _, e => by simp at e
  | s0 :: ss, vs, as, 0, s, h, e => by
    have e1 := Option.some.inj (show some s0 = some s from e)
    subst e1
    cases h with
    | @cons _ u m _ vs a2 h1 h2 => exact ⟨[], u, m, a2, rfl, rfl, h1, fun h' => .cons h' h2⟩
  | s0 :: ss, vs, as, j + 1, s, h, e => by
    cases h with
    | @cons _ u0 m0 _ vs a0 h1 h2 =>
      obtain ⟨a1, u, m, a2, rfl, hu, hs, reb⟩ := SsI.part (ss := ss) j h2 (show ss[j]? = some s from e)
      refine ⟨m0 ++ a1, u, m, a2, by simp only [List.append_assoc], hu, hs, fun {s' m'} h' => ?_⟩
      have := SsI.cons h1 (reb h')
      simpa only [List.append_assoc, List.set_cons_succ] using this
theorem CeI.part {c : Cel} {o : HO} {as : List Addr} (h : CeI G H c o as) (j : Nat) {s : Slot} (e : c.nth j = some s) : ∃ a1 u m a2, as = a1 ++ m ++ a2 ∧ SlI G H s u m ∧ ∀ {s' m'}, SlI G H s' u m' → CeI G H (c.sub j s') o (a1 ++ m' ++ a2) := by
  cases h with
  | lst h =>
    obtain ⟨a1, u, m, a2, rfl, _, hs, reb⟩ := h.part j e
    exact ⟨a1, u, m, a2, rfl, hs, fun h' => .lst (reb h')⟩
  | @ins C dx fs gs as h1 h =>
    have e' : (fs.map (·.2))[j]? = some s := by rw [List.getElem?_map]; exact e
    obtain ⟨a1, u, m, a2, rfl, _, hs, reb⟩ := h.part j e'
    refine ⟨a1, u, m, a2, rfl, hs, fun h' => .ins (by rw [setF2_fst]; exact h1) ?_⟩
    rw [setF2_snd]
    exact reb h'
  | dk h1 h =>
    obtain ⟨a1, u, m, a2, rfl, _, hs, reb⟩ := h.part j e
    exact ⟨a1, u, m, a2, rfl, hs, fun h' => .dk h1 (reb h')⟩
  | fdk h =>
    obtain ⟨a1, u, m, a2, rfl, _, hs, reb⟩ := h.part j e
    exact ⟨a1, u, m, a2, rfl, hs, fun h' => .fdk (reb h')⟩
  | say m h => cases e
  | ex h => cases e
end
section
variable {X : Cx} {B : Base} {S S1 S2 S3 : Stt} {x y z : Slot} {a b e o : Expr} {es : List Expr} {pos apos : Pos} {D : FE} {rest : List Stmt} {kk : Nat} {tg : Expr}
/-- the j-th part of the k-th cell gets a name -/
theorem js_open (k j : Nat) {p : Addr} {c d : Cel} (hk : S.cs[k]? = some (p, c)) (hj : c.nth j = some (.own d)) (h : ∀ q, JS X B ⟨S.sl, S.cs.set k (p, c.sub j (.v (.ref q))) ++ [(q, d)]⟩ rest D) : JS X B S rest D := fun T tv σ H hs => by
  obtain ⟨G, as, bs, z⟩ := hs
  have hg : c ≠ .gone := by intro e; subst e; cases hj
  obtain ⟨l, o, m, r, rfl, hp, hc, reb⟩ := z.cel.at k hk hg
  obtain ⟨a1, u, m1, a2, rfl, hs1, reb2⟩ := hc.part j hj
  cases hs1 with
  | @own _ q od mq hq hd =>
    have c2 := (reb (Ex.refl G) fun _ _ => rfl).1 hp (reb2 (.v : SlI G H (.v (.ref q)) (.ref q) []))
    have c3 := c2.app (.cons hq hd .nil)
    have pm : (l ++ p :: (a1 ++ [] ++ a2) ++ r ++ (q :: (mq ++ []))).Perm (l ++ p :: (a1 ++ q :: mq ++ a2) ++ r) := by
      simp only [List.append_nil, List.append_assoc, List.cons_append]
      refine List.Perm.append_left l (List.Perm.cons p (List.Perm.append_left a1 ?_))
      have e1 : ((a2 ++ r) ++ (q :: mq)).Perm ((q :: mq) ++ (a2 ++ r)) := List.perm_append_comm
      simpa only [List.append_assoc, List.cons_append] using e1
    have pm2 := List.Perm.append_left as pm
    exact h q T tv σ H ⟨G, as, _, z.tmp, c3, z.slo, pm2.nodup_iff.mpr z.nod, fun a ha => z.fre a (pm2.mem_iff.mp ha), z.gro, z.new, z.sub, z.frm⟩
/-- a name's thing, as a temporary one of its own -/
theorem Sta.own {T : List Slot} {σ : St} {tv : List V} {H : Hp} {p : Addr} {v : V} {c : Cel} (h : Sta B S (.v (.ref p) :: T) σ (v :: tv) H) (k : Nat) (hk : S.cs[k]? = some (p, c)) (hg : c ≠ .gone) : Sta B ⟨S.sl, S.cs.set k (p, .gone)⟩ (.own c :: T) σ (v :: tv) H := by
  have ev := h.exact
  subst ev
  obtain ⟨G, as, bs, z⟩ := h
  obtain ⟨a1, a2, rfl, g, z'⟩ := z.pop
  cases g with
  | v =>
    obtain ⟨l, o, m, r, rfl, hp, hc, reb⟩ := z.cel.at k hk hg
    have pm : ((p :: m) ++ a2 ++ (l ++ r)).Perm (([] ++ a2) ++ (l ++ p :: m ++ r)) := by
      rw [List.nil_append]
      have e1 : (a2 ++ (l ++ p :: m ++ r)).Perm (a2 ++ ((p :: m) ++ (l ++ r))) := List.Perm.append_left _ (by
        rw [← List.append_assoc]
        exact List.Perm.append_right _ List.perm_append_comm)
      have e2 : (a2 ++ ((p :: m) ++ (l ++ r))).Perm ((p :: m) ++ a2 ++ (l ++ r)) := by
        rw [← List.append_assoc]
        exact List.Perm.append_right _ List.perm_append_comm
      exact (e1.trans e2).symm
    exact ⟨G, (p :: m) ++ a2, l ++ r, .cons (.own hp hc) z'.tmp, (reb (Ex.refl G) fun _ _ => rfl).2 p, z.slo, pm.nodup_iff.mpr z.nod, fun a ha => z.fre a (pm.mem_iff.mp ha), z.gro, z.new, z.sub, z.frm⟩
theorem je_own (k : Nat) {p : Addr} {c : Cel} (h : JE X B S e S1 (.v (.ref p))) (hk : S1.cs[k]? = some (p, c)) (hg : c ≠ .gone := by nofun) : JE X B S e ⟨S1.sl, S1.cs.set k (p, .gone)⟩ (.own c) := fun T tv σ H Q hs q => h _ _ _ _ _ hs fun v H' g => q v H' (g.own k hk hg)
/-- the j-th part of a temporary thing is the k-th cell's: it is taken in -/
theorem Sta.fold {T : List Slot} {σ : St} {tv : List V} {H : Hp} {q : Addr} {v : V} {c d : Cel} (h : Sta B S (.own c :: T) σ (v :: tv) H) (k j : Nat) (hj : c.nth j = some (.v (.ref q))) (hk : S.cs[k]? = some (q, d)) (hg : d ≠ .gone) : Sta B ⟨S.sl, S.cs.set k (q, .gone)⟩ (.own (c.sub j (.own d)) :: T) σ (v :: tv) H := by
  obtain ⟨G, as, bs, z⟩ := h
  obtain ⟨a1, a2, rfl, g, z'⟩ := z.pop
  cases g with
  | @own _ p o m hp hc =>
    obtain ⟨l, od, md, r, rfl, hq, hd, reb⟩ := z.cel.at k hk hg
    obtain ⟨b1, u, m1, b2, rfl, hs1, reb2⟩ := hc.part j hj
    cases hs1 with
    | v =>
      have c2 := reb2 (.own hq hd)
      have pm : ((p :: (b1 ++ (q :: md) ++ b2)) ++ a2 ++ (l ++ r)).Perm ((p :: (b1 ++ [] ++ b2)) ++ a2 ++ (l ++ (q :: md) ++ r)) := by
        rw [List.append_nil]
        have e1 : ((p :: (b1 ++ (q :: md) ++ b2)) ++ a2 ++ (l ++ r)).Perm ((q :: md) ++ ((p :: (b1 ++ b2)) ++ a2 ++ (l ++ r))) := by
          have f1 : (p :: (b1 ++ (q :: md) ++ b2)).Perm ((q :: md) ++ (p :: (b1 ++ b2))) := by
            have g1 : (b1 ++ (q :: md) ++ b2).Perm ((q :: md) ++ (b1 ++ b2)) := by
              rw [← List.append_assoc]
              exact List.Perm.append_right _ List.perm_append_comm
            have g2 : (p :: ((q :: md) ++ (b1 ++ b2))).Perm ((q :: md) ++ (p :: (b1 ++ b2))) := List.perm_middle.symm
            exact (List.Perm.cons p g1).trans g2
          have f2 := List.Perm.append_right (l ++ r) (List.Perm.append_right a2 f1)
          rw [List.append_assoc (q :: md), List.append_assoc (q :: md)] at f2
          exact f2
        refine e1.trans ?_
        have e2 : (l ++ (q :: md) ++ r).Perm ((q :: md) ++ (l ++ r)) := by
          rw [← List.append_assoc]
          exact List.Perm.append_right _ List.perm_append_comm
        have e3 := List.Perm.append_left ((p :: (b1 ++ b2)) ++ a2) e2
        refine List.Perm.trans ?_ e3.symm
        rw [← List.append_assoc, ← List.append_assoc ((p :: (b1 ++ b2)) ++ a2)]
        exact List.Perm.append_right _ List.perm_append_comm
      exact ⟨G, _, l ++ r, .cons (.own hp c2) z'.tmp, (reb (Ex.refl G) fun _ _ => rfl).2 q, z.slo, pm.nodup_iff.mpr z.nod, fun a ha => z.fre a (pm.mem_iff.mp ha), z.gro, z.new, z.sub, z.frm⟩
theorem je_fold (k j : Nat) {q : Addr} {c d : Cel} (h : JE X B S e S1 (.own c)) (hj : c.nth j = some (.v (.ref q))) (hk : S1.cs[k]? = some (q, d)) (hg : d ≠ .gone := by nofun) : JE X B S e ⟨S1.sl, S1.cs.set k (q, .gone)⟩ (.own (c.sub j (.own d))) := fun T tv σ H Q hs q' => h _ _ _ _ _ hs fun v H' g => q' v H' (g.fold k j hj hk hg)
section
variable {i j r : Int} {p q : Bool} {m m2 : Option Bool} {rs : List Expr}
theorem je_mulG (ha : JE X B S a S1 (.val i)) (hb : JE X B S1 b S2 (.val j)) (h : mulG i j = some r) : JE X B S (.BinOp a .Mult b pos) S2 (.val r) := by
  unfold mulG at h
  split at h
  · cases h
    exact je_mul ha hb (by assumption)
  · cases h
theorem je_divG (ha : JE X B S a S1 (.val i)) (hb : JE X B S1 b S2 (.val j)) (h : divG i j = some r) : JE X B S (.BinOp a .FloorDiv b pos) S2 (.val r) := by
  unfold divG at h
  split at h
  · cases h
    exact je_div ha hb (by assumption)
  · cases h
theorem je_modG (ha : JE X B S a S1 (.val i)) (hb : JE X B S1 b S2 (.val j)) (h : modG i j = some r) : JE X B S (.BinOp a .Mod b pos) S2 (.val r) := by
  unfold modG at h
  split at h
  · cases h
    exact je_mod ha hb (by assumption)
  · cases h
theorem je_powG (n : Nat) (ha : JE X B S a S1 (.val i)) (hb : JE X B S1 b S2 (.val (n : Int))) (hn : n ≤ 1000000) (h : powG i n = some r) : JE X B S (.BinOp a .Pow b pos) S2 (.val r) := by
  unfold powG at h
  split at h
  · cases h
    exact je_pow ha hb hn (by assumption)
  · cases h
theorem jw_andM (he : andM p m = some q) (h : JT X B S a S1 p) (h2 : p = true → ∀ r, m = some r → JW X B S1 (.BoolOp .And (b :: rs) pos) S1 r) : JW X B S (.BoolOp .And (a :: b :: rs) pos) S1 q := by
  unfold andM at he
  cases p with
  | true =>
    rw [if_pos rfl] at he
    have := jw_and (q := q) h fun _ => h2 rfl q he
    rwa [Bool.true_and] at this
  | false =>
    rw [if_neg (by decide)] at he
    cases he
    have := jw_and (b := b) (rest := rs) (pos := pos) (q := false) h (fun e => nomatch e)
    rwa [Bool.and_false] at this
theorem jw_orM (he : orM p m = some q) (h : JT X B S a S1 p) (h2 : p = false → ∀ r, m = some r → JW X B S1 (.BoolOp .Or (b :: rs) pos) S1 r) : JW X B S (.BoolOp .Or (a :: b :: rs) pos) S1 q := by
  unfold orM at he
  cases p with
  | false =>
    rw [if_neg (by decide)] at he
    have := jw_or (q := q) h fun _ => h2 rfl q he
    rwa [Bool.false_or] at this
  | true =>
    rw [if_pos rfl] at he
    cases he
    have := jw_or (b := b) (rest := rs) (pos := pos) (q := true) h (fun e => nomatch e)
    rwa [Bool.or_true] at this
theorem je_ifM {α : Type} {ma mb : Option α} {t : α} {el : α → Slot} {c : Expr} (he : ifM p ma mb = some t) (h : JT X B S c S1 p) (h1 : p = true → ∀ r, ma = some r → JE X B S1 a S2 (el r)) (h2 : p = false → ∀ r, mb = some r → JE X B S1 b S2 (el r)) : JE X B S (.IfExp c a b pos) S2 (el t) := by
  unfold ifM at he
  cases p with
  | true => rw [if_pos rfl] at he; exact je_if h (fun _ => h1 rfl t he) fun e => nomatch e
  | false => rw [if_neg (by decide)] at he; exact je_if h (fun e => nomatch e) fun _ => h2 rfl t he
end
/-- xs + ys, lists that stand in the heap -/
theorem je_cat {s1 s2 : List Slot} (ha : JE X B S a S1 x) (hb : JE X B S1 b S2 y) (h1 : ∀ {T σ v tv H G as bs}, St0 B S2 (x :: T) σ (v :: tv) H G as bs → ∃ p vs, v = .ref p ∧ H p = some (.lst vs) ∧ SsI G H s1 vs []) (h2 : ∀ {T σ v tv H G as bs}, St0 B S2 (y :: T) σ (v :: tv) H G as bs → ∃ p vs, v = .ref p ∧ H p = some (.lst vs) ∧ SsI G H s2 vs []) (hl : s1.length + s2.length ≤ 16777216) : JE X B S (.BinOp a .Add b pos) S2 (.own (.lst (s1 ++ s2))) :=
  je_op op_cat ha hb fun T tv σ v u H Q h q => by
    obtain ⟨G, as, bs, z⟩ := h
    obtain ⟨a1, a2, rfl, _, z1⟩ := id z.pop
    obtain ⟨p2, vs2, rfl, hp2, hs2⟩ := h2 z
    obtain ⟨p1, vs1, rfl, hp1, hs1⟩ := h1 z1
    obtain ⟨a3, a4, rfl, _, z2⟩ := id z1.pop
    exact ⟨p1, p2, vs1, vs2, rfl, rfl, hp1, hp2, by rw [← hs1.len, ← hs2.len]; exact hl, fun r hr => q _ _ (z2.newO hr (.lst (hs1.any'.app hs2.any')))⟩
/-- a list that stands in the heap itself -/
def Lh (B : Base) (S : Stt) (x : Slot) (ss : List Slot) : Prop := ∀ {T σ v tv H G as bs}, St0 B S (x :: T) σ (v :: tv) H G as bs → ∃ p vs, v = .ref p ∧ H p = some (.lst vs) ∧ SsI G H ss vs []
theorem lh_own {α : Type} [DecidableEq α] [Datum α] {xs : List α} : Lh B S (.own (.lst (xs.map Slot.val))) (xs.map Slot.val) := fun z => by
  obtain ⟨a1, a2, _, h, z'⟩ := z.pop
  cases h with
  | own hp' hc =>
    cases hc with
    | lst hs => exact ⟨_, _, rfl, hp', hs.plain (plain_map xs) ▸ hs⟩
def catG {α : Type} (xs ys : List α) : Option (List α) := if xs.length + ys.length ≤ 16777216 then some (xs ++ ys) else none
theorem je_catG {α : Type} [DecidableEq α] [Datum α] {xs ys zs : List α} (ha : JE X B S a S1 x) (hb : JE X B S1 b S2 y) (h1 : Lh B S2 x (xs.map Slot.val)) (h2 : Lh B S2 y (ys.map Slot.val)) (h : catG xs ys = some zs) : JE X B S (.BinOp a .Add b pos) S2 (.own (.lst (zs.map Slot.val))) := by
  unfold catG at h
  split at h
  · cases h
    rw [List.map_append]
    exact je_cat ha hb h1 h2 (by rw [List.length_map, List.length_map]; assumption)
  · cases h
end
end J
namespace J
universe u w
open PySem L2
open PySem.W (Datum DatumOrd Holds HoldAll T3 T4)
theorem valV_at {k : Key} : ∀ {gs : List (Key × V)} {ks : List Key} {j : Nat} {v : V}, ks = gs.map (·.1) → ks.findIdx? (fun x => decide (x = k)) = some j → (gs.map (·.2))[j]? = some v → valV gs k = some v
  | [], _, _, _, rfl, h, _ => by simp at h
  | (k0, v0) :: gs, _, j, v, rfl, h, hv => by
    rw [List.map_cons, List.findIdx?_cons] at h
    by_cases e : k0 = k
    · rw [if_pos (decide_eq_true e)] at h
      cases h
      cases hv
      exact valV_pos e
    · rw [if_neg (by rw [decide_eq_false e]; decide)] at h
      cases hq : (gs.map (·.1)).findIdx? (fun x => decide (x = k)) with
      | none => rw [hq] at h; cases h
      | some i =>
        rw [hq] at h
        cases h
        rw [valV_neg e]
        exact valV_at rfl hq hv
theorem putK_at {k : Key} {v : V} : ∀ {gs : List (Key × V)} {j : Nat}, (gs.map (·.1)).findIdx? (fun x => decide (x = k)) = some j → (gs.map (·.1)).Nodup → (putK gs k v).map (·.1) = gs.map (·.1) ∧ (putK gs k v).map (·.2) = (gs.map (·.2)).set j v := fun {gs j} h nd => by
  have hany : (gs.any fun kv => decide (kv.1 = k)) = true := by
    obtain ⟨x, hx, e⟩ := List.any_eq_true.mp (show (gs.map (·.1)).any (fun x => decide (x = k)) = true by
      rw [List.any_eq_true]
      obtain ⟨hlt, h1, _⟩ := List.findIdx?_eq_some_iff_getElem.mp h
      exact ⟨_, List.getElem_mem hlt, h1⟩)
    obtain ⟨p, hp, rfl⟩ := List.mem_map.mp hx
    exact List.any_eq_true.mpr ⟨p, hp, e⟩
  unfold putK
  rw [if_pos hany]
  refine ⟨?_, ?_⟩
  · rw [List.map_map]
    refine List.map_congr_left fun p _ => ?_
    show (if p.1 = k then (p.1, v) else p).1 = p.1
    split <;> rfl
  · obtain ⟨hlt, h1, h2⟩ := List.findIdx?_eq_some_iff_getElem.mp h
    rw [List.length_map] at hlt
    have h1' : gs[j].1 = k := by simpa using h1
    apply List.ext_getElem?
    intro i
    rw [List.map_map, List.getElem?_map, List.getElem?_set, List.getElem?_map]
    cases q : gs[i]? with
    | none =>
      rw [Option.map_none, Option.map_none]
      by_cases e : j = i
      · subst e
        rw [List.getElem?_eq_none_iff] at q
        omega
      · rw [if_neg e]
    | some p =>
      obtain ⟨hi, rfl⟩ := List.getElem?_eq_some_iff.mp q
      rw [Option.map_some, Option.map_some, List.length_map]
      by_cases e : j = i
      · subst e
        rw [if_pos rfl, if_pos hlt]
        show some (if gs[j].1 = k then (gs[j].1, v) else gs[j]).2 = some v
        rw [if_pos h1']
      · rw [if_neg e]
        show some (if gs[i].1 = k then (gs[i].1, v) else gs[i]).2 = some gs[i].2
        rw [if_neg]
        intro e2
        have := (List.pairwise_iff_getElem.mp nd)
        rcases Nat.lt_or_gt_of_ne e with hl | hl
        · exact this j i (by simpa using hlt) (by simpa using hi) hl (by simp [h1', e2])
        · exact this i j (by simpa using hi) (by simpa using hlt) hl (by simp [h1', e2])
section
variable {X : Cx} {B : Base} {S S1 S2 S3 : Stt} {x y z : Slot} {a b e o : Expr} {es : List Expr} {pos apos : Pos} {D : FE} {rest : List Stmt} {kk : Nat} {tg : Expr} {p : Addr} {ks : List Key} {ss : List Slot} {key : Str}
theorem je_dgetH (k j : Nat) {s : Slot} {i : Expr} (hr : Room kk X.A) (ho : JE X B S o S1 (.v (.ref p))) (hi : JE X B S1 i S2 (.val key)) (hk : S2.cs[k]? = some (p, .dk ks ss)) (hj : ks.findIdx? (fun x => decide (x = Sum.inr key)) = some j) (hs : ss[j]? = some s) (hp : s.plain = true := by rfl) (hns : NoSl i := by exact fun _ _ => rfl) : JE X B S (.Subscript o i pos) S2 s := fun T tv σ H Q h q =>
  pe1 (pe_dget (hu_of hr) pe0 pe0 hns) (ho _ _ _ _ _ h fun v1 H1 h1 => by
    have e := h1.exact
    subst e
    refine hi _ _ _ _ _ h1 fun v2 H2 h2 => ?_
    have e := h2.str
    subst e
    obtain ⟨G, as, bs, z⟩ := h2.drop.drop
    obtain ⟨oo, m, hpp, hc, _, _, _, _⟩ := z.cellW hk (by intro e; cases e)
    cases hc with
    | @dk _ _ gs _ hks hss =>
      obtain ⟨a1, u, m1, a2, _, hu, su, _⟩ := hss.part j hs
      obtain rfl := su.nil hp
      have hv := valV_at hks hj hu
      refine ⟨p, u, rfl, ?_, q _ _ (z.push su)⟩
      have g := DGet.k (k := Sum.inr key) hpp
      rw [hv] at g
      exact g)
/-- the cell of a dict, a written key's value stored -/
theorem Sta.dput {T : List Slot} {σ : St} {tv : List V} {H : Hp} {v : V} (h : Sta B S (y :: T) σ (v :: tv) H) (hy : y.plain = true) (k j : Nat) (hk : S.cs[k]? = some (p, .dk ks ss)) (hj : ks.findIdx? (fun x => decide (x = Sum.inr key)) = some j) (hnd : ks.Nodup) (hsp : (∀ s ∈ ss, s.plain = true)) (hn : ks.length ≤ 1000) : ∃ gs : List (Key × V), H p = some (.dK gs) ∧ gs.length < sizeLine ∧ Sta B ⟨S.sl, S.cs.set k (p, .dk ks (ss.set j y))⟩ T σ tv (upd H p (.dK (putK gs (Sum.inr key) v))) := by
  obtain ⟨G, as, bs, z0⟩ := h
  obtain ⟨a1, a2, rfl, hs1, z⟩ := z0.pop
  obtain rfl := hs1.nil hy
  obtain ⟨oo, m, hpp, hc, _, hm1, _, reb⟩ := z.cellW hk (by intro e; cases e)
  cases hc with
  | @dk _ _ gs _ hks hss =>
    obtain rfl := hss.plain hsp
    subst hks
    obtain ⟨e1, e2⟩ := putK_at (v := v) hj hnd
    have hlen : gs.length < sizeLine := by
      have : gs.length ≤ 1000 := by simpa using hn
      exact small1000 this
    have hnew : CeI G (upd H p (.dK (putK gs (Sum.inr key) v))) (.dk (gs.map (·.1)) (ss.set j y)) (.dK (putK gs (Sum.inr key) v)) [] := .dk e1.symm (by
      rw [e2]
      exact SsI.of_get (by rw [List.length_set, List.length_set, hss.len]) fun n s u h1 h2 => by
        rw [List.getElem?_set] at h1 h2
        have hl := hss.len
        by_cases en : j = n
        · rw [if_pos en] at h1 h2
          split at h1
          · rw [if_pos (by omega)] at h2
            cases h1
            cases h2
            exact hs1.any'
          · cases h1
        · rw [if_neg en] at h1 h2
          obtain ⟨u', f1, f2⟩ := hss.get _ h1
          rw [h2] at f1
          cases f1
          exact f2.any')
    obtain ⟨bs', z3⟩ := reb hnew (List.Sublist.refl _)
    exact ⟨gs, hpp, hlen, z3.sta⟩
/-- a written dict with written texts as keys -/
def JPs (X : Cx) (B : Base) (S : Stt) (kvs : List (Expr × Expr)) (S' : Stt) (ks : List Key) (xs : List Slot) : Prop := ∀ T tv σ H Q, Sta B S T σ tv H → (∀ vs H', vs.length = xs.length → ks.length = xs.length → Sta B S' (xs ++ T) σ (vs ++ tv) H' → Q ((ks.map kV).zip vs) H') → tPairs (kvs.map fun q => (teOf X q.1, teOf X q.2)) σ H Q
theorem jps_nil : JPs X B S [] S [] [] := fun T tv σ H Q h q => q [] H rfl rfl h
theorem jps_cons {k v : Expr} {r : List (Expr × Expr)} {xs : List Slot} (hk : JE X B S k S1 (.val key)) (hv : JE X B S1 v S2 x) (hr : JPs X B S2 r S3 ks xs) : JPs X B S ((k, v) :: r) S3 (Sum.inr key :: ks) (x :: xs) := fun T tv σ H Q h q =>
  hk _ _ _ _ _ h fun u H1 h1 => by
    have e := h1.str
    subst e
    exact hv _ _ _ _ _ h1.drop fun u H2 h2 => hr _ _ _ _ _ h2 fun vs H3 hl hl2 h3 => q (u :: vs) H3 (congrArg Nat.succ hl) (congrArg Nat.succ hl2) (Sta.rot hl.symm h3)
theorem pps_of {pos : Pos} : ∀ kvs : List (Expr × Expr), PPs X pos (kvs.map fun q => some q.1) (kvs.map (·.2)) (kvs.map fun q => (teOf X q.1, teOf X q.2))
  | [] => pps_nil
  | (k, v) :: r => pps_cons pe0 pe0 (pps_of r)
theorem merge_nodup : ∀ (more kvs : List (Key × V)), (kvs ++ more).map (·.1) |>.Nodup → mergeK kvs more = kvs ++ more
  | [], kvs, _ => by show kvs = kvs ++ []; rw [List.append_nil]
  | p :: r, kvs, h => by
    have hno : (kvs.any fun kv => decide (kv.1 = p.1)) = false := by
      cases q : kvs.any fun kv => decide (kv.1 = p.1) with
      | false => rfl
      | true =>
        obtain ⟨z, hz, e⟩ := List.any_eq_true.mp q
        rw [List.map_append] at h
        exact absurd (of_decide_eq_true e) ((List.nodup_append.mp h).2.2 z.1 (List.mem_map.mpr ⟨z, hz, rfl⟩) p.1 (List.mem_map.mpr ⟨p, List.mem_cons_self, rfl⟩))
    have e : putK kvs p.1 p.2 = kvs ++ [p] := by
      unfold putK
      rw [if_neg (by rw [hno]; decide)]
    show mergeK (putK kvs p.1 p.2) r = kvs ++ p :: r
    rw [e, merge_nodup r (kvs ++ [p]) (by rwa [List.append_assoc])]
    rw [List.append_assoc]
    rfl
theorem je_dispH {kvs : List (Expr × Expr)} {xs : List Slot} (h : JPs X B S kvs S1 ks xs) (hnd : ks.Nodup := by decide +kernel) (hn : 0 < kvs.length ∧ kvs.length ≤ 15 ∧ ks.length ≤ 15 := by decide) : JE X B S (.Dict (kvs.map fun q => some q.1) (kvs.map (·.2)) pos) S1 (.own (.dk ks xs)) := fun T tv σ H Q hs q =>
  pe1 (pe_disp (pps_of kvs) (by rw [List.all_map, List.all_eq_true]; intro _ _; rfl) (by rw [List.length_map, List.length_map]) (by intro e; have := congrArg List.length e; rw [List.length_map] at this; exact absurd this (by simpa using Nat.ne_of_gt hn.1)) (by rw [List.length_map]; exact hn.2.1)) (fun p hp => by
    obtain ⟨G, as, bs, z⟩ := hs
    have h1 : Sta B S (.own (.dk [] []) :: T) σ (.ref p :: tv) (upd H p (.dK [])) := z.newO hp (.dk rfl .nil)
    refine h _ _ _ _ _ h1 fun vs H2 hl hl2 h2 => ?_
    obtain ⟨G2, as2, bs2, z2⟩ := h2
    obtain ⟨a1, a2, rfl, g1, z3⟩ := z2.split hl.symm
    obtain ⟨a3, a4, rfl, g2, z4⟩ := z3.pop
    cases g2 with
    | @own _ _ o m hD hc =>
      cases hc with
      | @dk _ _ gs _ e1 hss =>
        have eg : gs = [] := by simpa using e1.symm
        subst eg
        cases hss
        refine ⟨hD, ks.zip vs, ?_, ?_, ?_⟩
        · rw [List.zip_map_left]
          rfl
        · rw [List.length_zip]
          omega
        · have em : mergeK [] (ks.zip vs) = ks.zip vs := merge_nodup _ [] (by
            show ((ks.zip vs).map (·.1)).Nodup
            rw [List.map_fst_zip (by omega)]
            exact hnd)
          rw [em]
          have nd := z2.nod
          have pm : ((p :: a1) ++ a4 ++ bs2).Perm (a1 ++ ([p] ++ a4) ++ bs2) := List.Perm.append_right _ (by
            have e1 : ((p :: a1) ++ a4).Perm ((a1 ++ [p]) ++ a4) := List.Perm.append_right _ (by
              have : ([p] ++ a1).Perm (a1 ++ [p]) := List.perm_append_comm
              exact this)
            rwa [List.append_assoc a1] at e1)
          have nd2 := pm.nodup_iff.mpr nd
          have nD : ∀ a ∈ a1 ++ a4 ++ bs2, a ≠ p := fun a ha e => by
            subst e
            have : ((a :: a1) ++ a4 ++ bs2) = a :: (a1 ++ a4 ++ bs2) := by simp
            rw [this] at nd2
            exact (List.nodup_cons.mp nd2).1 ha
          have fr := fun a ha => z2.fre a (pm.mem_iff.mp ha)
          have hG : G2 p = none := (fr p (by simp)).1
          have hF : B.F p = none := (fr p (by simp)).2
          refine q _ _ ⟨G2, (p :: a1) ++ a4, bs2, .cons (.own upd_same (.dk ?_ ?_)) (z4.tmp.mono (Ex.refl G2) fun a ha => upd_ne (nD a (by simp [ha]))), z4.cel.mono (Ex.refl G2) fun a ha => upd_ne (nD a (by simp [ha])), z2.slo, nd2, fr, z2.gro, z2.new, fun a u ha => by rw [upd_ne (by intro e; subst e; rw [hG] at ha; cases ha)]; exact z2.sub a u ha, fun a u ha => by rw [upd_ne (by intro e; subst e; rw [hF] at ha; cases ha)]; exact z2.frm a u ha⟩
          · rw [List.map_fst_zip (by omega)]
          · rw [List.map_snd_zip (by omega)]
            exact g1.mono (Ex.refl G2) fun a ha => upd_ne (nD a (by simp [ha])))
end
end J
namespace J
universe u w
open PySem L2
open PySem.W (Datum DatumOrd Holds HoldAll T3 T4)
def lcM {ι α β : Type} (f : ι → α → Option (Option β × ι)) (xs : List α) (s : ι) : Option (List β × ι) := if xs.length ≤ 16777216 then cmpM f xs s else none
theorem lcM_of {ι α β : Type} {f : ι → α → Option (Option β × ι)} {xs : List α} {s : ι} {r : List β × ι} (h : lcM f xs s = some r) : xs.length ≤ 16777216 ∧ cmpM f xs s = some (r.1, r.2) := by
  unfold lcM at h
  by_cases e : xs.length ≤ 16777216
  · rw [if_pos e] at h; exact ⟨e, h⟩
  · rw [if_neg e] at h; cases h
def rngG (j : Int) : Option (List Int) := if -(4611686018427387904 : Int) ≤ j ∧ j < 4611686018427387904 then some (rng 0 j.toNat) else none
def maxG {α : Type} [DecidableEq α] [DatumOrd α] : List α → Option α
  | [] => none
  | t :: ts => some (PySem.W.maxOf t ts)
def popG {α : Type} (xs : List α) (i : Int) : Option (α × List α) := if xs.length ≤ 16777216 then (ixp xs.length i).bind fun j => xs[j]?.bind fun t => some (t, xs.eraseIdx j) else none
theorem popG_of {α : Type} {xs : List α} {i : Int} {r : α × List α} (h : popG xs i = some r) : ∃ j, xs.length ≤ 16777216 ∧ ixp xs.length i = some j ∧ xs[j]? = some r.1 ∧ r.2 = xs.eraseIdx j := by
  unfold popG at h
  by_cases e : xs.length ≤ 16777216
  · rw [if_pos e] at h
    refine bnd h fun j hj h => bnd h fun t ht h => ?_
    cases h
    exact ⟨j, e, hj, ht, rfl⟩
  · rw [if_neg e] at h; cases h
theorem map_erase {α : Type u} {β : Type w} (f : α → β) : ∀ (xs : List α) (j : Nat), (xs.eraseIdx j).map f = (xs.map f).eraseIdx j
  | [], _ => rfl
  | _ :: _, 0 => rfl
  | x :: xs, j + 1 => congrArg (f x :: ·) (map_erase f xs j)
section
variable {X : Cx} {B : Base} {S S1 S2 S3 : Stt} {x y z : Slot} {a b e o : Expr} {es : List Expr} {pos apos : Pos} {D : FE} {rest : List Stmt} {kk : Nat} {tg : Expr} {p : Addr}
theorem je_appG {α : Type} [DecidableEq α] [Datum α] {xs ys : List α} {t : α} (k : Nat) {ss0 : List Slot} (ho : JE X B S o S1 (.v (.ref p))) (hk0 : S1.cs[k]? = some (p, .lst ss0)) (he : JE X B S1 e S2 (.val t)) (hk : S2.cs[k]? = some (p, .lst (xs.map Slot.val))) (h : psh xs t = some ys)
    (hbase : attributeBase o "append" X.env (eval o X.env) = eval o X.env := by rfl) (hst : starEach [e] X.env = (false, eval e X.env) :: starEach [] X.env := by rfl)
    (hfew : ((backTo pos (starEach [e] X.env)).all (fun x => !x.1) && (backToKw pos (keywordEach [] X.env)).all (fun x => x.1.isSome) && decide (([e] : List Expr).length + ([] : List Keyword).length + (if ([] : List Keyword).isEmpty then 0 else 1) < 30)) = true := by rfl)
    (hline : (apos.endLine == pos.line) = true := by rfl) : JE X B S (.Call (.Attribute o "append" apos) [e] [] pos) ⟨S2.sl, S2.cs.set k (p, .lst (ys.map Slot.val))⟩ (.v .non) := by
  obtain ⟨hl, rfl⟩ := psh_some h
  have := je_append (y := .val t) k ho hk0 he hk (by rw [List.length_map]; exact hl) rfl hbase hst hfew hline
  rw [List.map_append]
  exact this
theorem je_popG {α : Type} [DecidableEq α] [Datum α] {xs : List α} {i : Int} {r : α × List α} (k : Nat) {ss0 : List Slot} (ho : JE X B S o S1 (.v (.ref p))) (hk0 : S1.cs[k]? = some (p, .lst ss0)) (he : JE X B S1 e S2 (.val i)) (hk : S2.cs[k]? = some (p, .lst (xs.map Slot.val))) (h : popG xs i = some r)
    (hbase : attributeBase o "pop" X.env (eval o X.env) = eval o X.env := by rfl) (hst : starEach [e] X.env = (false, eval e X.env) :: starEach [] X.env := by rfl)
    (hfew : ((backTo pos (starEach [e] X.env)).all (fun x => !x.1) && (backToKw pos (keywordEach [] X.env)).all (fun x => x.1.isSome) && decide (([e] : List Expr).length + ([] : List Keyword).length + (if ([] : List Keyword).isEmpty then 0 else 1) < 30)) = true := by rfl)
    (hline : (apos.endLine == pos.line) = true := by rfl) : JE X B S (.Call (.Attribute o "pop" apos) [e] [] pos) ⟨S2.sl, S2.cs.set k (p, .lst (r.2.map Slot.val))⟩ (.val r.1) := by
  obtain ⟨j, hl, hj, ht, e⟩ := popG_of h
  have := je_popAt (s := .val r.1) k ho hk0 he hk (plain_map xs) (by rw [List.length_map]; exact hj) (by rw [List.getElem?_map, ht]; rfl) (by rw [List.length_map]; exact hl) hbase hst hfew hline
  rw [e, map_erase]
  exact this
/-- xs[i] = t -/
theorem jg_subG {α : Type} [DecidableEq α] [Datum α] {xs ys : List α} {t : α} (k : Nat) {i : Int} {ix : Expr} (ho : JE X B S o S1 (.v (.ref p))) (hi : JE X B S1 ix S2 (.val i)) (hk : S2.cs[k]? = some (p, .lst (xs.map Slot.val))) (h : stx xs i t = some ys)
    (ha : ∀ v, assign (.Subscript o ix pos) X.env v = (do
      let ov ← holding [v] (eval o X.env)
      let iv ← holding [v, ov] (eval ix X.env)
      standAt pos
      holding [v, ov, iv] (setItem ov iv v)
      release [v, ov, iv] []) := by intro _; rfl) : JG X B S (.Subscript o ix pos) (.val t) ⟨S2.sl, S2.cs.set k (p, .lst (ys.map Slot.val))⟩ [] := by
  unfold stx at h
  refine bnd h fun j hj h => ?_
  cases h
  have := jg_sub (y := .val t) k ho hi hk (by rw [List.length_map]; exact hj) (plain_map xs) rfl ha
  rw [List.map_set]
  exact this
theorem ji_rngG {q : Pos} {j : Int} {r : List Int} (hm : X.mg "range" = none) (ha : JE X B S e S1 (.val j)) (h : rngG j = some r) (hg : Gl X "range" := by rfl) (hst : starEach [e] X.env = (false, eval e X.env) :: starEach [] X.env := by rfl) (hs : starEach [e] X.env = [(false, eval e X.env)] := by rfl) : JI X B S tg (.Call (.Name "range" q) [e] [] pos) S1 [] (r.map Slot.val) (fun _ => True) := by
  unfold rngG at h
  by_cases c : -(4611686018427387904 : Int) ≤ j ∧ j < 4611686018427387904
  · rw [if_pos c] at h; cases h
    exact ji_range1 hm ha c hg hst hs
  · rw [if_neg c] at h; cases h
theorem je_maxG {β : Type} [DecidableEq β] [DatumOrd β] {r : β} {xs : List β} {q : Pos} (hr : Room kk X.A) (hm : X.mg "max" = none) (ha : JE X B S e S1 x) (hl : Lv X.K B S1 x (xs.map Slot.val)) (h : maxG xs = some r) (hc : X.calm = true := by rfl) (hd : Datum.depth β ≤ 60 := by decide) (hg : Gl X "max" := by rfl) (hst : starEach [e] X.env = (false, eval e X.env) :: starEach [] X.env := by rfl) : JE X B S (.Call (.Name "max" q) [e] [] pos) S1 (.val r) := by
  cases xs with
  | nil => cases h
  | cons t ts => cases h; exact je_maxT hr hm ha hl hc hd hg hst
/-- the same state, less told of -/
theorem le_fgt {sl : List Slot} {cs : List (Addr × Cel)} (n : Nat) (f : Fgt S.sl sl) (hc : S.cs.take n = cs) : Le B S ⟨sl, cs⟩ := fun _ _ _ _ h => by
  have h2 := (h.fgt f).take n
  rw [show (⟨sl, S.cs⟩ : Stt).cs.take n = cs from hc] at h2
  exact h2
end
end J
namespace J
universe u w
open PySem L2
open PySem.W (Datum DatumOrd Holds HoldAll T3 T4 Tup)
section
end
section
end
section
variable {X : Cx} {B : Base} {S S1 S2 S3 : Stt} {x y z : Slot} {a b e o : Expr} {es : List Expr} {pos apos : Pos} {D : FE} {rest : List Stmt} {kk : Nat} {tg : Expr} {p : Addr} {kws : List Keyword}
/-- keywords' values, from the left -/
def JK (X : Cx) (B : Base) (S : Stt) (kws : List Keyword) (S' : Stt) (xs : List Slot) : Prop := ∀ T tv σ H (Q : List V → Hp → Prop), Sta B S T σ tv H → (∀ vs H', vs.length = xs.length → Sta B S' (xs ++ T) σ (vs ++ tv) H' → Q vs H') → ∃ t, PK X kws t ∧ t σ H Q
theorem jk_nil : JK X B S [] S [] := fun T tv σ H Q hs q => ⟨_, pk_nil, q [] H rfl hs⟩
def tkOf (X : Cx) (kws : List Keyword) : TA := fun σ H Q => ∃ t, PK X kws t ∧ t σ H Q
theorem pk0 : PK X kws (tkOf X kws) := ⟨fun pos pins s σ H Q I ⟨_, hp, h⟩ => hp.run pos pins s σ H Q I h⟩
theorem jk_cons {nm : Option Str} {kpos : Pos} {xs : List Slot} (h1 : JE X B S e S1 x) (h2 : JK X B S1 kws S2 xs) : JK X B S (⟨nm, e, kpos⟩ :: kws) S2 (x :: xs) := fun T tv σ H Q hs q =>
  ⟨_, pk_cons pe0 pk0, h1 _ _ _ _ _ hs fun v H1 g1 => h2 _ _ _ _ _ g1 fun vs H2 hl g2 => q (v :: vs) H2 (congrArg Nat.succ hl) (Sta.rot hl.symm g2)⟩
end
theorem fn_okD {γ : Type} (f : FS γ) {P : Program} {w : World} {K : PySem.W.Frag} {mg : Str → Option Value} {base : Heap} {x qual : Str} {params : Arguments} {bd : List Stmt} {scope : Scope} {dvs : List V} {kwd : List (Str × V)} {fa : Addr} {fd : FuncData} {N ps : List Str} {lv : Nat} (F : FunD K x qual params bd scope dvs kwd fa fd) (sc : FnScope N ps scope) (hn : ∀ g, (f.args g).length = ps.length) (hp : ∀ g, ∀ s ∈ f.args g, s.plain = true)
    (body : ∀ (cdv : Value) (A : Around) (outer : List Env) (s : Shared) (H : Hp) (E : XK), Room lv (fctx P w K mg base N qual scope fa cdv A outer s H E).A → ∀ (B : Base) (g : γ), f.pre g → f.preG g B.G →
      JS (fctx P w K mg base N qual scope fa cdv A outer s H E) B ⟨f.args g ++ List.replicate (N.length - (f.args g).length) .any, f.cells g⟩ bd (fend B f g)) : FnOk P w K mg base CX0 (lv + 1) fa fd ps f.sp := by
  refine F.ok sc (fun vs H Q E h => ?_) (fun cdv A outer s H vs Q E hr h => ?_)
  · obtain ⟨g, B, _, _, hs, _⟩ := h
    obtain ⟨G, as, bs, z⟩ := hs
    rw [← hn g, z.tmp.len]
  · obtain ⟨g, B, hpre, hpg, hs, q⟩ := h
    refine ⟨tbOf (fctx P w K mg base N qual scope fa cdv A outer s H E) bd, PSs.nox pb0, ?_⟩
    refine tb_mono (body cdv A outer s H E hr B g hpre hpg [] [] _ H (hs.enter (hp g))) (fun σ H h => q _ _ h) (fun v H h => q _ _ h) (fun _ _ h => h.elim) (fun _ _ h => h.elim)
end J
namespace J
universe u w
open PySem L2
open PySem.W (Datum DatumOrd Holds HoldAll T3 T4 Tup)
/-- one of the states Sq -/
def toE {π : Type} (B : Base) (Sq : π → Stt) : FK := fun T tv σ H => ∃ q, Sta B (Sq q) T σ tv H
section
variable {X : Cx} {B : Base} {S S1 S2 S3 : Stt} {x y z : Slot} {a b e o : Expr} {es : List Expr} {pos apos : Pos} {D : FE} {rest : List Stmt} {kk : Nat} {tg : Expr}
theorem js_ifE {π : Type} {c : Expr} {th el : List Stmt} {p : Bool} {Sq : π → Stt} (hc : JT X B S c S1 p) (h1 : p = true → JS X B S1 th { D with nx := toE B Sq }) (h2 : p = false → JS X B S1 el { D with nx := toE B Sq }) (k : ∀ q, JS X B (Sq q) rest D) : JS X B S (.If c th el pos :: rest) D := by
  have mono : ∀ {st : List Stmt} {T tv σ H}, tbOf X st (({ D with nx := toE B Sq } : FE).at T tv) σ H → tbOf X st ((D.seq X rest).at T tv) σ H := fun {st T tv σ H} h => ⟨fun pins s I => thn (h.run pins s I) fun f s1 q => by
    cases f with
    | next =>
      obtain ⟨σ', H', I', w, q⟩ := q
      exact ⟨σ', H', I', k w _ _ _ _ q⟩
    | brk => exact q
    | cont => exact q
    | ret u => exact q⟩
  exact js_if hc (fun e => fun T tv σ H g => mono (h1 e T tv σ H g)) (fun e => fun T tv σ H g => mono (h2 e T tv σ H g))
theorem js_forE {π ι α : Type} [DecidableEq α] [Datum α] {xs : List α} {f : ι → α → Option ι} {Sf : π → ι → Stt} {Sb : π → ι → α → Stt} {s0 sE : ι} {tg iter : Expr} {body : List Stmt} {zs : List Slot} {ok : Stt → Prop} (hf : forM f xs s0 = some sE)
    (hi : JI X B S tg iter S1 zs (xs.map Slot.val) ok) (h0 : ∀ T tv σ H, Sta B S1 T σ tv H → ∃ q, Sta B (Sf q s0) T σ tv H) (hok : ∀ q s, ok (Sf q s))
    {ws : List Nat} (hg : ∀ q s x, JG X B (Sf q s) tg (.val x) (Sb q s x) ws) (hb : ∀ q s x s', x ∈ xs → f s x = some s' → JS X B (Sb q s x) body { nx := toE B fun q => Sf q s', rt := D.rt, ct := toE B fun q => Sf q s' })
    (k : ∀ q, JS X B (Sf q sE) rest D) (hc : X.calm = true := by rfl) (hp : PassesOwn (model X.prog X.w) X.A X.env X.xe := by exact PassesOwn.never) (hs : ∀ x, foldedSetIterable iter X.env x = pure x := by intro _; rfl) : JS X B S (.For tg iter body [] pos :: rest) D := by
  refine js_step (ps_for hp hc pi0 pg0 pb0 hs) fun T tv σ H h => hi _ _ _ _ _ h fun J zv H1 hl h1 wk => ?_
  refine ⟨fun i m σ H => m = xs.length - i ∧ i ≤ xs.length ∧ ∃ s, forM f (xs.drop i) s = some sE ∧ ∃ q, Sta B (Sf q s) (zs ++ T) σ (zv ++ tv) H, ⟨xs.length, by simp, Nat.zero_le _, s0, hf, h0 _ _ _ _ h1⟩, ?_⟩
  rintro i m σ H ⟨rfl, hle, s, hs', q, hS⟩
  by_cases hlt : i < xs.length
  · rw [List.drop_eq_getElem_cons hlt] at hs'
    refine bnd hs' fun s2 e1 e2 => .inr ?_
    have hx : (xs.map Slot.val)[i]? = some (Slot.val xs[i]) := by rw [List.getElem?_map, List.getElem?_eq_getElem hlt]; rfl
    obtain ⟨w1, w2⟩ := wk.go _ _ _ _ _ i _ (hok q s) hx hS
    refine ⟨w1, toE B (fun q => Sf q s2) (zs ++ T) (zv ++ tv), fun σ' H' g => ⟨xs.length - (i + 1), by omega, rfl, hlt, s2, e2, g⟩, fun v H' y => ?_⟩
    exact hg q s xs[i] _ _ _ _ _ _ (w2 v H' y) fun σ3 H3 _ g3 => ⟨fun pins st I => thn ((hb q s xs[i] s2 (List.getElem_mem hlt) e1 _ _ _ _ g3).run pins st I) fun fl s2 q => by
        cases fl with
        | next => exact q
        | cont => exact q
        | brk => obtain ⟨_, _, _, z⟩ := q; exact z.elim
        | ret u => exact q⟩
  · have e : i = xs.length := by omega
    subst e
    rw [List.drop_length] at hs'
    cases hs'
    have st := wk.stop _ _ _ _ _ (hok _ _) hS
    rw [List.length_map] at st
    exact .inl ⟨st, k q _ _ _ _ (Sta.drops hl hS)⟩
theorem js_forLE {π ι α ρ : Type} [DecidableEq α] [Datum α] {xs : List α} {f : ι → α → Option (Lp ι ρ)} {Sf : π → ι → Stt} {Sb : π → ι → α → Stt} {Rr : ρ → V → Hp → Prop} {s0 : ι} {sE : Sum ι ρ} {tg iter : Expr} {body : List Stmt} {zs : List Slot} {ok : Stt → Prop} (hf : forL f xs s0 = some sE)
    (hi : JI X B S tg iter S1 zs (xs.map Slot.val) ok) (h0 : ∀ T tv σ H, Sta B S1 T σ tv H → ∃ q, Sta B (Sf q s0) T σ tv H) (hok : ∀ q s, ok (Sf q s))
    {ws : List Nat} (hg : ∀ q s x, JG X B (Sf q s) tg (.val x) (Sb q s x) ws)
    (hb : ∀ q s x (o : Lp ι ρ), x ∈ xs → f s x = some o → JS X B (Sb q s x) body { nx := fun T tv σ H => ∃ s', o = .nx s' ∧ ∃ q, Sta B (Sf q s') T σ tv H, rt := fun v H => ∃ r, o = .rt r ∧ Rr r v H, ct := fun T tv σ H => ∃ s', o = .nx s' ∧ ∃ q, Sta B (Sf q s') T σ tv H, bk := fun T tv σ H => ∃ s', o = .bk s' ∧ ∃ q, Sta B (Sf q s') T σ tv H })
    (hr : ∀ r, sE = .inr r → ∀ v H, Rr r v H → D.rt v H) (k : ∀ s, sE = .inl s → ∀ q, JS X B (Sf q s) rest D) (hc : X.calm = true := by rfl) (hp : PassesOwn (model X.prog X.w) X.A X.env X.xe := by exact PassesOwn.never) (hs : ∀ x, foldedSetIterable iter X.env x = pure x := by intro _; rfl) : JS X B S (.For tg iter body [] pos :: rest) D := by
  refine js_step (ps_for hp hc pi0 pg0 pb0 hs) fun T tv σ H h => hi _ _ _ _ _ h fun J zv H1 hl h1 wk => ?_
  refine ⟨fun i m σ H => m = xs.length - i ∧ i ≤ xs.length ∧ ∃ s, forL f (xs.drop i) s = some sE ∧ ∃ q, Sta B (Sf q s) (zs ++ T) σ (zv ++ tv) H, ⟨xs.length, by simp, Nat.zero_le _, s0, hf, h0 _ _ _ _ h1⟩, ?_⟩
  rintro i m σ H ⟨rfl, hle, s, hs', q, hS⟩
  by_cases hlt : i < xs.length
  · rw [List.drop_eq_getElem_cons hlt] at hs'
    refine bnd hs' fun o e1 e2 => .inr ?_
    have hx : (xs.map Slot.val)[i]? = some (Slot.val xs[i]) := by rw [List.getElem?_map, List.getElem?_eq_getElem hlt]; rfl
    obtain ⟨w1, w2⟩ := wk.go _ _ _ _ _ i _ (hok q s) hx hS
    refine ⟨w1, fun σ' H' => ∃ s', o = .nx s' ∧ ∃ q, Sta B (Sf q s') (zs ++ T) σ' (zv ++ tv) H', ?_, fun v H' y => ?_⟩
    · rintro σ' H' ⟨s2, rfl, g⟩
      exact ⟨xs.length - (i + 1), by omega, rfl, hlt, s2, e2, g⟩
    · exact hg q s xs[i] _ _ _ _ _ _ (w2 v H' y) fun σ3 H3 _ g3 => ⟨fun pins st I => thn ((hb q s xs[i] o (List.getElem_mem hlt) e1 _ _ _ _ g3).run pins st I) fun fl s2 q => by
        cases fl with
        | next => exact q
        | cont => exact q
        | brk =>
          obtain ⟨σ', H', I', s', rfl, w, g⟩ := q
          cases e2
          exact ⟨σ', H', I', k s' rfl w _ _ _ _ (Sta.drops hl g)⟩
        | ret u =>
          obtain ⟨v', σ', H', I', rv, r, rfl, g⟩ := q
          cases e2
          exact ⟨v', σ', H', I', rv, hr r rfl _ _ g⟩⟩
  · have e : i = xs.length := by omega
    subst e
    rw [List.drop_length] at hs'
    cases hs'
    have st := wk.stop _ _ _ _ _ (hok _ _) hS
    rw [List.length_map] at st
    exact .inl ⟨st, k s rfl q _ _ _ _ (Sta.drops hl hS)⟩
theorem js_whileE {π ι : Type} {c : ι → Option Bool} {f : ι → Option ι} {Sf : π → ι → Stt} {s0 sE : ι} {n : Nat} {test : Expr} {body : List Stmt} (hw : whileM c f n s0 = some sE) (h0 : ∀ T tv σ H, Sta B S T σ tv H → ∃ q, Sta B (Sf q s0) T σ tv H)
    (hc : ∀ q s p, c s = some p → JT X B (Sf q s) test (Sf q s) p) (hb : ∀ q s s', c s = some true → f s = some s' → JS X B (Sf q s) body { nx := toE B fun q => Sf q s', rt := D.rt, ct := toE B fun q => Sf q s' })
    (k : ∀ q, JS X B (Sf q sE) rest D) (hp : PassesOwn (model X.prog X.w) X.A X.env X.xe := by exact PassesOwn.never) : JS X B S (.While test body [] pos :: rest) D := by
  refine js_step (ps_while hp pt0 pb0) fun T tv σ H h => ?_
  refine ⟨fun m σ H => ∃ s, whileM c f m s = some sE ∧ ∃ q, Sta B (Sf q s) T σ tv H, ⟨n, s0, hw, h0 _ _ _ _ h⟩, ?_⟩
  rintro m σ H ⟨s, hm, q, hs⟩
  cases m with
  | zero => cases hm
  | succ m =>
    refine bnd hm fun p hp1 hm1 => ?_
    refine hc q s p hp1 _ _ _ _ _ hs fun H1 h1 => ?_
    cases p with
    | true =>
      rw [if_pos rfl] at hm1
      refine bnd hm1 fun s' hs' hm2 => ?_
      exact iteT ⟨toE B (fun q => Sf q s') T tv, fun σ' H' g => ⟨m, Nat.lt_succ_self m, s', hm2, g⟩, ⟨fun pins s1 I => thn ((hb q s s' hp1 hs' T tv σ H1 h1).run pins s1 I) fun fl s2 q => by
        cases fl with
        | next => exact q
        | cont => exact q
        | brk => obtain ⟨_, _, _, z⟩ := q; exact z.elim
        | ret u => exact q⟩⟩
    | false =>
      rw [if_neg (by decide)] at hm1
      cases hm1
      exact iteF (k q T tv σ H1 h1)
/-- whole numbers and None where either may stand -/
theorem je_some {α : Type} [DecidableEq α] [Datum α] [PySem.W.SomeDatum α] {t : α} (h : JE X B S e S1 (.val t)) : JE X B S e S1 (.val (some t)) := je_as h fun h => by
  cases h with
  | val h => exact .val (show Dq _ _ (Datum.toD (some t)) from h)
theorem je_nonO {α : Type} [DecidableEq α] [Datum α] [PySem.W.SomeDatum α] (h : JE X B S e S1 (.v .non)) : JE X B S e S1 (.val (none : Option α)) := je_as h fun h => by
  cases h with
  | v => exact .val (show Dq _ _ (Datum.toD (none : Option α)) from .non)
theorem je_mulR {i j : Int} (ha : JE X B S a S1 (.val i)) (hb : JE X B S1 b S2 (.val j)) (hc : -(2 ^ 64) < j ∧ j < 2 ^ 64) : JE X B S (.BinOp a .Mult b pos) S2 (.val (i * j)) := je_mul ha hb (.inr hc)
theorem je_mulL {i j : Int} (ha : JE X B S a S1 (.val i)) (hb : JE X B S1 b S2 (.val j)) (hc : -(2 ^ 64) < i ∧ i < 2 ^ 64) : JE X B S (.BinOp a .Mult b pos) S2 (.val (i * j)) := je_mul ha hb (.inl hc)
theorem je_lstv {α : Type} [DecidableEq α] [Datum α] {xs : List α} (ha : JA X B S es S1 (xs.map Slot.val)) (hl : xs.length ≤ 1000 := by exact Nat.le_of_ble_eq_true rfl) : JE X B S (.List es pos) S1 (.own (.lst (xs.map Slot.val))) := je_lst ha (by rw [List.length_map]; exact hl)
theorem je_let {α : Type} [DecidableEq α] [Datum α] {p q : α} (h : JE X B S e S1 (.val p)) (k : some p = some q) : JE X B S e S1 (.val q) := Option.some.inj k ▸ h
def Slot.nm : Slot → Addr → Slot
  | .own _, p => .v (.ref p)
  | .ownA q _, _ => .v (.ref q)
  | .otup _, _ => .any
  | s, _ => s
theorem sl_ownA {G H : Hp} {q : Addr} {c : Cel} {v : V} {as : List Addr} (h : SlI G H (.ownA q c) v as) : v = .ref q ∧ SlI G H (.own c) v as := by
  cases h with
  | ownA hp hc => exact ⟨rfl, .own hp hc⟩
theorem Sta.ownA {T : List Slot} {σ : St} {tv : List V} {H : Hp} {v : V} {q : Addr} {c : Cel} (h : Sta B S (.ownA q c :: T) σ (v :: tv) H) : v = .ref q ∧ Sta B S (.own c :: T) σ (v :: tv) H := by
  obtain ⟨G, as, bs, z⟩ := h
  have zt := z.tmp
  cases zt with
  | cons h1 h2 => exact ⟨(sl_ownA h1).1, G, _, bs, .cons (sl_ownA h1).2 h2, z.cel, z.slo, z.nod, z.fre, z.gro, z.new, z.sub, z.frm⟩
/-- a body's end without return -/
theorem js_fin {γ : Type} {f : FS γ} {g : γ} (n : Nat) (hc : S.cs.take n = f.cells' g) (hx : f.res g = .v .non) : JS X B S [] (fend B f g) := js_nil fun T tv σ H hs => by
  have h := Out.take n (Sta.only (hs.push (x := .v .non) fun _ _ => .v))
  show Out B (f.res g) (f.cells' g) .non H
  rw [hx, ← hc]
  exact h
theorem js_loopEnd {π ι : Type} {Sq : π → ι → Stt} {s' : ι} (n : Nat) (q : π) (f : Fgt S.sl (Sq q s').sl) (hc : S.cs.take n = (Sq q s').cs) (hD : D.nx = toE B fun q => Sq q s') : JS X B S [] D := js_nil fun T tv σ H h => by
  show D.nx T tv σ H
  rw [hD]
  exact ⟨q, le_fgt (sl := (Sq q s').sl) (cs := (Sq q s').cs) n f hc _ _ _ _ h⟩
end
def Slot.isAny : Option Slot → Bool
  | some .any => true
  | none => true
  | _ => false
theorem any_at {sl : List Slot} {vs : List Nat} (h : (vs.all fun i => Slot.isAny sl[i]?) = true) : AnyAt sl vs := fun i hi s hs => by
  have := List.all_eq_true.mp h i hi
  rw [hs] at this
  cases s with
  | any => rfl
  | v w => cases this
  | val t => cases this
  | own c => cases this
  | ownA _ c => cases this
  | otup _ => cases this
  | say φ => cases this
theorem sql_mono {K : PySem.W.Frag} {G G' : Hp} {a : Addr} {xs : List V} (h : SqL K G a xs) (e : Ex G G') : SqL K G' a xs := by
  rcases h with (h | ⟨o, h⟩) | h
  · exact .inl (.inl (e _ _ h))
  · exact .inl (.inr ⟨o, e _ _ h⟩)
  · exact .inr h
theorem inJE {Y : Cx} {B : Base} {S S' : Stt} {e : Expr} {x : Slot} {k : Nat} (hr : Room k Y.A) (hN : Y.N.Nodup) (f : Room k Y.A → Y.N.Nodup → JE Y B S e S' x) : JE Y B S e S' x := f hr hN
theorem inJTs {Y : Cx} {B : Base} {S S' : Stt} {es : List Expr} {p : Bool} {k : Nat} (hr : Room k Y.A) (hN : Y.N.Nodup) (f : Room k Y.A → Y.N.Nodup → JTs Y B S es S' p) : JTs Y B S es S' p := f hr hN
theorem inJG {Y : Cx} {B : Base} {S S' : Stt} {tg : Expr} {x : Slot} {ws : List Nat} (hN : Y.N.Nodup) (f : Y.N.Nodup → JG Y B S tg x S' ws) : JG Y B S tg x S' ws := f hN
end J
namespace J
universe u w
open PySem L2
open PySem.W (Datum DatumOrd Holds HoldAll T3 T4 Tup)
section
end
end J
namespace J
open PySem PySem.Spec PyProof.Rows L2
open PySem.W (Datum)
abbrev eSet (w : World) : Obj := { cls := .type "set", dict := none, data := .set #[] 0 (.fresh 0 0 (!w.params.followText "set-order")) }
section
variable {P : Program} {w : World} {A : Around} {E : Value → Shared → Prop} {s : Shared}
set_option maxHeartbeats 3200000 in
theorem set_lst {l : Addr} {items : Array Value} (ns : List Int) {Q : Value → Shared → Prop} (hh : A.handled = none) (hl : s.heap.IsList l items) (hit : IntsAre items.toList ns) (hb : ns.length + 1 < scanBound)
    (h : ∀ (h' : Heap) (tk c : Nat), SetR w h' s.heap.objs.size (fun j => decide (j ∈ ns)) c → c ≤ ns.length → (∀ b o, s.heap.get? b = some o → h'.get? b = some o) → Q (.ref s.heap.objs.size) { s with heap := h', toks := tk }) :
    wpAny (model P w) A (call (.type "set") [.ref l]) Q E s := by
  have size_eq : items.size = ns.length := (Array.length_toList (xs := items)).symm.trans (IntsAre.length hit)
  obtain ⟨c, tl, hmro⟩ := F.called_set.mro
  have made := F.called_set.made
  have self := F.called_set.sub
  refine wpAny_call (codeAny_of_tree (?_ : wpAny _ _ (callAny (.type "set") _) _ _ _))
  refine wpAny_pure ⟨Code.quiet_builtin _ (by decide +kernel), codeAny_builtin F.entry_type_call ?_⟩
  rw [A.under_plain (weight_type_call_type "set" [.ref l] []) rfl]
  have noType := F.called_set.notType
  have canMake := F.called_set.canCreate
  have callOk := F.typeCall_set_1 (.ref l)
  repeat (any_goals (first | assumption | wp_step))
  refine codeAny_mono (code_set_led1 (.ref l) (E := E) (Q₁ := fun o1 z => o1 = .ref s.heap.objs.size ∧ z = { s with heap := s.heap.push (eSet w) }) ⟨rfl, rfl⟩) fun r1 z hr => ?_
  cases r1 with
  | error e => exact hr
  | ok fl =>
    cases fl with
    | ret o1 =>
      obtain ⟨rfl, rfl⟩ := hr
      have at0 : (s.heap.push (eSet w)).get? s.heap.objs.size = some (eSet w) := Heap.get?_push_size _ rfl
      have ty0 : Shared.TypeIs { s with heap := s.heap.push (eSet w) } (.ref s.heap.objs.size) "set" := ⟨_, at0, rfl⟩
      have look1 := F.called_set.init.lookup
      have bind1 := F.called_set.init.bind (.ref s.heap.objs.size)
      repeat (any_goals (first | assumption | wp_step))
      refine codeAny_mono (codeAny_call_builtin (R := wants (fun r z => r = .none ∧ ∃ h' tk c, z = { s with heap := h', toks := tk } ∧ SetR w h' s.heap.objs.size (fun j => decide (j ∈ ns)) c ∧ c ≤ ns.length ∧ ∀ b o, s.heap.get? b = some o → h'.get? b = some o) E) F.called_set.init.plain F.entry_set_init (check_set_init_1 ty0 ?_)) fun r2 z2 hr2 => ?_
      · obtain ⟨⟨oc, od, odt, osl⟩, lo, lc, nl, ld⟩ := hl
        simp only at lc ld
        subst lc
        subst ld
        have lo' := Heap.get?_push_of_some (eSet w) lo
        have sub1 := F.sub_list_set
        have sub2 := F.sub_list_frozenset
        have ne1 : (Value.type "list" == Value.type "dict") = false := by decide
        have isl : (s.heap.push (eSet w)).IsList l items := ⟨_, lo', rfl, nl, rfl⟩
        unfold Builtin.«set.__init__» noKeywords Builtin.Frozenset.updateFrom
        generalize ePI : pyIter = PI
        wp_walk
        subst ePI
        refine wpAny_pyIter_list isl (wpAny_bind (wpAny_runValue ?_))
        have lt0 : l < s.heap.objs.size := Heap.lt_size lo
        have none3 : A.in1.in1.in1.handled = none := by simp [hh]
        have sz1 : (s.heap.push (eSet w)).objs.size = s.heap.objs.size + 1 := Heap.size_push ..
        have apart : l ≠ (s.heap.push (eSet w)).objs.size := by rw [sz1]; exact Nat.ne_of_lt (Nat.lt_succ_of_lt lt0)
        have notin : s.heap.objs.size ∉ [(s.heap.push (eSet w)).objs.size, l] := by
          rw [sz1]
          intro q
          rcases List.mem_cons.mp q with q | q
          · exact Nat.ne_of_lt (Nat.lt_succ_self _) q
          · exact Nat.ne_of_gt lt0 (List.mem_singleton.mp q)
        have vals : ∀ (i : Nat) (v : Value), items[i]? = some v → ∃ k t, ns[i]? = some k ∧ v = .int k t := fun i v hv => by
          have hi : i < ns.length := size_eq ▸ (Array.getElem?_eq_some_iff.mp hv).1
          obtain ⟨t, e⟩ := IntsAre.int_at hit i v (by rw [Array.getElem?_toList]; exact hv)
          exact ⟨_, t, List.getElem?_eq_getElem hi, by rw [e, List.getD_eq_getElem?_getD, List.getElem?_eq_getElem hi]; rfl⟩
        refine set_update_ints ((Walks.list none3 _ l apart items).toS) s.heap.objs.size notin ns size_eq hb vals (items.size - 0) 0 _ (by omega) (Nat.zero_le _) ⟨⟨_, Heap.get?_push_size _ rfl, rfl, rfl⟩, isl.push _⟩ ?first ?last
        case first => exact ⟨0, Nat.le_refl 0, setR_new_at (Heap.get?_push_of_some _ at0)⟩
        case last =>
          rintro ⟨h', g2, d2, t2, o2⟩ c2 mv hc2 R2
          have e1 : g2 = s.gens := mv.gens
          have e2 : d2 = s.drawn := mv.drawn
          have e3 : o2 = s.os := mv.os
          subst e1 e2 e3
          refine wpAny_pure (?_ : wpAny _ _ (ret Value.none) _ _ _)
          refine wpAny_pure ⟨rfl, h', t2, c2, rfl, R2, size_eq ▸ hc2, fun b o e => ?_⟩
          have lb : b < s.heap.objs.size := Heap.lt_size e
          refine mv.heap b o ?_ (Heap.get?_push_of_some _ (Heap.get?_push_of_some _ e))
          rw [sz1]
          intro q
          rcases List.mem_cons.mp q with q | q
          · exact Nat.ne_of_lt lb q
          · exact Nat.ne_of_lt (Nat.lt_succ_of_lt lb) (List.mem_singleton.mp q)
      · cases r2 with
        | error e => exact hr2
        | ok f2 =>
          cases f2 with
          | ret r =>
            obtain ⟨rfl, h', tk, c', rfl, R2, hc2, k2⟩ := hr2
            repeat (any_goals (first | assumption | wp_step))
            exact h _ _ _ R2 hc2 k2
          | _ => exact hr2.elim
    | _ => exact hr.elim
set_option maxHeartbeats 3200000 in
/-- sorted(a), a set of whole numbers, however many -/
theorem sorted_setN {a : Addr} {S : Int → Bool} {n : Nat} {Q : Value → Shared → Prop} (R : SetR w s.heap a S n) (hh : A.handled = none)
    (hQ : ∀ (z : Shared) (p : Addr) (out : Array Value) (c : Nat) (ns : List Int), (∀ b o, s.heap.get? b = some o → z.heap.get? b = some o) → z.gens = s.gens → z.os = s.os → s.heap.objs.size ≤ p → z.heap.get? p = some (seqObj "list" out c) → IntsAre out.toList ns → ns.Pairwise (· < ·) → (∀ k, k ∈ ns ↔ S k = true) → ns.length = n → Q (.ref p) z) :
    wpAny (model P w) A (call (.builtin "sorted") [.ref a]) Q E s := by
  obtain ⟨o, es, ep, t, ho, hex, hd, good, nodup, mem, bnd, fits, rfl, ris, led⟩ := R
  refine Calls.call_function_entry kind_sorted plain_sorted entry_sorted (args_sorted1 _) ?_
  unfold Builtin.«sorted»
  refine wpAny_bind (m := checkCount "sorted" 1 1 _) (wpAny_pure ?_)
  refine wpAny_bind (collect_set (A := A.in1) hh ⟨o, ho, hex.1, hd⟩ fits bnd ris led fun s1 vs k1 hz g1 o1 pm => ?_)
  have lenv : vs.length = es.size := by rw [pm.length_eq, List.length_map, Array.length_toList]
  have lenl : vs.length ≤ sizeLine := by rw [lenv]; exact fits_of_scanBound bnd
  have kints : IntsAre vs (vs.map Builtin.Re.reRawOf) := ints_of vs fun v hv => by
    obtain ⟨q, hq, rfl⟩ := List.mem_map.mp (pm.mem_iff.mp hv)
    obtain ⟨k, tk, h1, _⟩ := good q hq
    exact ⟨k, tk, h1⟩
  have keys : (vs.map Builtin.Re.reRawOf).Perm (es.toList.map keyOf) := by
    have q := pm.map Builtin.Re.reRawOf
    rwa [List.map_map] at q
  refine wpAny_bind (wpAny_newList ?_ lenl)
  have lst : (s1.heap.push (seqObj "list" vs.toArray 0)).get? s1.heap.objs.size = some (seqObj "list" vs.toArray 0) := Heap.get?_push_size _ rfl
  refine wpAny_bind (wpAny_holding (wpAny_call_entry slot_list_sort ⟨_, lst, rfl⟩ entry_list_sort (SrtO.list_sort_ord SrtO.swo_int lst lenl (fun h2 => SrtO.ints_sortable kints h2) fun out h1 h2 => ⟨_, rfl, ?_⟩) (args_list_sort _)))
  obtain ⟨u1, u2, u3⟩ := SrtO.ints_out kints h1 h2
  obtain ⟨c, hc⟩ := sortedHeap_at (vs := vs) (out := out.toArray) lst
  have pn := u2.trans keys
  have inc := lt_of_le_nodup _ u3 (pn.nodup_iff.mpr nodup)
  refine wpAny_pure ⟨_, rfl, hQ _ s1.heap.objs.size out.toArray c _ (fun b u e => ?_) g1 o1 hz hc (by simpa using u1) inc (fun k => by rw [pn.mem_iff, ← mem k]) ?_⟩
  · have lt := Heap.lt_size (k1 b u e)
    refine Eq.trans (sortedHeap_old (Nat.ne_of_lt lt) ?_) (Heap.get?_push_of_some _ (k1 b u e))
    rw [size_push']
    exact Nat.lt_succ_of_lt lt
  · rw [pn.length_eq, List.length_map, Array.length_toList]
end
def insS (x : Int) : List Int → List Int
  | [] => [x]
  | y :: ys => if x < y then x :: y :: ys else if x = y then y :: ys else y :: insS x ys
def sset (ns : List Int) : List Int := ns.foldr insS []
theorem insS_mem {x k : Int} : ∀ {l : List Int}, k ∈ insS x l ↔ k = x ∨ k ∈ l
  | [] => by simp [insS]
  | y :: ys => by
    unfold insS
    split
    · simp
    · split
      · rename_i e
        subst e
        simp
      · simp only [List.mem_cons, insS_mem (l := ys)]
        constructor
        · rintro (h | h | h)
          · exact .inr (.inl h)
          · exact .inl h
          · exact .inr (.inr h)
        · rintro (h | h | h)
          · exact .inr (.inl h)
          · exact .inl h
          · exact .inr (.inr h)
theorem insS_inc {x : Int} : ∀ {l : List Int}, l.Pairwise (· < ·) → (insS x l).Pairwise (· < ·)
  | [], _ => by simp [insS]
  | y :: ys, h => by
    obtain ⟨h1, h2⟩ := List.pairwise_cons.mp h
    unfold insS
    split
    · rename_i e
      exact List.pairwise_cons.mpr ⟨(fun z hz => (List.mem_cons.mp hz).elim (fun q => q ▸ e) fun q => Int.lt_trans e (h1 z q)), h⟩
    · split
      · exact h
      · exact List.pairwise_cons.mpr ⟨(fun z hz => (insS_mem.mp hz).elim (fun q => by omega) fun q => h1 z q), insS_inc h2⟩
theorem sset_inc : ∀ ns : List Int, (sset ns).Pairwise (· < ·)
  | [] => List.Pairwise.nil
  | n :: ns => insS_inc (sset_inc ns)
theorem sset_mem {k : Int} : ∀ {ns : List Int}, k ∈ sset ns ↔ k ∈ ns
  | [] => by simp [sset]
  | n :: ns => by
    show k ∈ insS n (sset ns) ↔ _
    rw [insS_mem, sset_mem (ns := ns), List.mem_cons]
theorem inc_ext : ∀ {xs ys : List Int}, xs.Pairwise (· < ·) → ys.Pairwise (· < ·) → (∀ k, k ∈ xs ↔ k ∈ ys) → xs = ys
  | [], [], _, _, _ => rfl
  | [], y :: ys, _, _, h => absurd ((h y).mpr List.mem_cons_self) (by simp)
  | x :: xs, [], _, _, h => absurd ((h x).mp List.mem_cons_self) (by simp)
  | x :: xs, y :: ys, hx, hy, h => by
    obtain ⟨x1, x2⟩ := List.pairwise_cons.mp hx
    obtain ⟨y1, y2⟩ := List.pairwise_cons.mp hy
    have e : x = y := by
      rcases List.mem_cons.mp ((h x).mp List.mem_cons_self) with e | e
      · exact e
      · rcases List.mem_cons.mp ((h y).mpr List.mem_cons_self) with e2 | e2
        · exact e2.symm
        · have := y1 x e
          have := x1 y e2
          omega
    subst e
    rw [inc_ext x2 y2 fun k => ?_]
    have hk := h k
    simp only [List.mem_cons] at hk
    constructor
    · intro hm
      rcases hk.mp (.inr hm) with e | e
      · subst e; have := x1 k hm; omega
      · exact e
    · intro hm
      rcases hk.mpr (.inr hm) with e | e
      · subst e; have := y1 k hm; omega
      · exact e
theorem inc_nodup {xs : List Int} (h : xs.Pairwise (· < ·)) : xs.Nodup := h.imp fun h e => by omega
def tSetN (K : PySem.W.Frag) (ta : TE) (lim : Nat) (R : List Int → VK → Hp → Prop) : TE := fun σ H Q => ta σ H fun x H1 => ∃ (l : Addr) (ns : List Int), x = .ref l ∧ SqL K H1 l (ns.map V.int) ∧ ns.length ≤ lim ∧ R ns Q H1
section
variable {X : Cx} {a : Expr} {ta : TE} {p p2 q pos : Pos}
theorem pe_sortSetN (hg : Gl X "sorted") (hm : X.mg "sorted" = none) (hg2 : Gl X "set") (hm2 : X.mg "set" = none) (ha : PE X a ta) (hc : X.calm = true) (na : starEach [a] X.env = (false, eval a X.env) :: starEach [] X.env) :
    PE X (.Call (.Name "sorted" p) [.Call (.Name "set" p2) [a] [] q] [] pos) (tSetN X.K ta 4000 fun ns Q H => ∀ b, H b = none → Q (.ref b) (upd H b (.lst ((sset ns).map V.int)))) := by
  refine ⟨fun pins s σ H Q I h => ?_⟩
  refine Call_ (ld_blt I hg hm boot_sorted (PyProof.Rows.callWith_builtin1 (PyProof.Rows.args_cons ?_ rfl) rfl rfl))
  refine Call_ (ld_blt I hg2 hm2 boot_set (PyProof.Rows.callWith_type1 (PyProof.Rows.args_cons (thn (ha.run pins s σ H _ I h) fun v s1 ⟨x, H1, I1, r1, q1⟩ => PyProof.Rows.args_nil ?_) na) na rfl))
  obtain ⟨l, ns, rfl, hq, hl, q1⟩ := q1
  cases r1
  obtain ⟨its, r, pl, hz⟩ := I1.list hq
  refine set_lst ns (I1.ok.hd hc) pl.isList (by simpa using RZ.intsAre_vals r) (by unfold scanBound; omega) fun h' tk c hS hcn hk => PyProof.Rows.args_nil ?_
  refine sorted_setN (s := { s1 with heap := h', toks := tk }) hS (I1.ok.hd hc) fun z b out c2 ns' kz gz oz hb hz2 hi inc mem hlen => ?_
  have e : ns' = sset ns := inc_ext inc (sset_inc ns) fun k => by rw [mem k, sset_mem, decide_eq_true_eq]
  subst e
  have I2 : Inv X pins σ H1 { s1 with heap := h', toks := tk } := I1.kept hk
  have hn : H1 b = none := I2.hok.fresh hb
  have short : ((sset ns).map V.int).length ≤ sizeLine := by rw [List.length_map, hlen, sizeLine_eq]; omega
  exact ⟨.ref b, upd H1 b (.lst ((sset ns).map V.int)), I2.call' (ch := []) oz (Un.laid kz hb hn) (I2.hok.laid kz hb ⟨short, out.toList, c2, vals_of_ints hi, hz2⟩) (by rw [gz]; exact I2.bare) (fun _ z => nomatch z), rfl, q1 b hn⟩
end
section
variable {X : Cx} {B : Base} {S S1 S2 S3 : Stt} {x y z : Slot} {a b e o : Expr} {es : List Expr} {pos apos p p2 q : Pos}
def setG (ns : List Int) : Option (List Int) := if ns.length ≤ 4000 then some (sset ns) else none
theorem setG_of {ns r : List Int} (h : setG ns = some r) : ns.length ≤ 4000 ∧ r = sset ns := by
  unfold setG at h
  by_cases c : ns.length ≤ 4000
  · rw [if_pos c] at h; cases h; exact ⟨c, rfl⟩
  · rw [if_neg c] at h; cases h
theorem lv_ints {ns : List Int} {x : Slot} {K : PySem.W.Frag} (hl : Lv K B S x (ns.map Slot.val)) {T : List Slot} {σ : L2.St} {v : V} {tv : List V} {H G : Hp} {as bs : List Addr} (z : St0 B S (x :: T) σ (v :: tv) H G as bs) : ∃ l, v = .ref l ∧ SqL K H l (ns.map V.int) := by
  obtain ⟨l, vs, rfl, hq, hs⟩ := hl z
  have e : vs = ns.map V.int := by
    have key : ∀ {ns : List Int} {vs : List V}, SsI G H (ns.map Slot.val) vs [] → vs = ns.map V.int := fun {ns} => by
      induction ns with
      | nil => intro vs h; cases h; rfl
      | cons n ns ih =>
        intro vs h
        cases vs with
        | nil => cases h
        | cons v vs =>
          obtain ⟨h1, h2⟩ := h.cons_nil
          have hd := sl_dq h1
          cases (show Dq _ _ (PyData.int n) from hd)
          rw [ih h2]
          rfl
    exact key hs
  exact ⟨l, rfl, e ▸ hq⟩
theorem je_sortSet {ns r : List Int} (hm : X.mg "sorted" = none) (hm2 : X.mg "set" = none) (ha : JE X B S a S1 x) (hl : Lv X.K B S1 x (ns.map Slot.val)) (h : setG ns = some r) (hc : X.calm = true := by rfl) (hg : Gl X "sorted" := by rfl) (hg2 : Gl X "set" := by rfl) (na : starEach [a] X.env = (false, eval a X.env) :: starEach [] X.env := by rfl) :
    JE X B S (.Call (.Name "sorted" p) [.Call (.Name "set" p2) [a] [] q] [] pos) S1 (.own (.lst (r.map Slot.val))) := fun T tv σ H Q hs kq =>
  pe1 (pe_sortSetN hg hm hg2 hm2 pe0 hc na) (ha _ _ _ _ _ hs fun v H1 h1 => by
    obtain ⟨G, as, bs, z⟩ := id h1
    obtain ⟨l, rfl, hq⟩ := lv_ints hl z
    obtain ⟨hl4, rfl⟩ := setG_of h
    refine ⟨l, ns, rfl, hq, hl4, fun b hb => ?_⟩
    obtain ⟨G2, as2, bs2, z2⟩ := h1.drop
    refine kq _ _ (z2.newO hb (.lst ?_))
    have key : ∀ (K2 : Hp) (ns : List Int), SsI G2 K2 (ns.map Slot.val) (ns.map V.int) [] := fun K2 ns => by
      induction ns with
      | nil => exact .nil
      | cons n ns ih => exact .cons (as := []) (sl_int n) ih
    exact key _ _)
end
end J
namespace J
universe u w
open PySem L2
open PySem.W (Datum DatumOrd Holds HoldAll T3 T4 Tup)
theorem dqAll_get {G : Hp} : ∀ {vs : List V} {ds : List PyData} (j : Nat) {d : PyData}, DqAll G vs ds → ds[j]? = some d → ∃ u, vs[j]? = some u ∧ Dq G u d
  | _, _, _, _, .nil, h => by simp at h
  | _, _, 0, _, .cons h1 _, h => by cases h; exact ⟨_, rfl, h1⟩
  | _, _, j + 1, _, .cons _ h2, h => dqAll_get j h2 h
theorem dqAll_len {G : Hp} : ∀ {vs : List V} {ds : List PyData}, DqAll G vs ds → vs.length = ds.length
  | _, _, .nil => rfl
  | _, _, .cons _ h => congrArg Nat.succ (dqAll_len h)
section
variable {X : Cx} {B : Base} {S S1 S2 S3 : Stt} {x y z : Slot} {a b e o : Expr} {es : List Expr} {pos apos : Pos} {kk : Nat}
theorem je_tpix {α β : Type} [DecidableEq α] [Datum α] [DecidableEq β] [Datum β] {t : α} {r : β} {ds : List PyData} {i : Int} (ha : JE X B S a S1 (.val t)) (hb : JE X B S1 b S2 (.val i)) (ht : Datum.toD t = .tuple ds) (hi : gx ds i = some (Datum.toD r)) (hs : PlainIx b := by exact fun _ _ => rfl) : JE X B S (.Subscript a b pos) S2 (.val r) := fun T tv σ H Q h q =>
  pe1 (pe_ix ix_tup pe0 pe0 hs) (ha _ _ _ _ _ h fun v H1 h1 => hb _ _ _ _ _ h1 fun u H2 h2 => by
    have e := h2.int
    subst e
    obtain ⟨G, as, bs, z⟩ := h2.drop
    obtain ⟨a1, a2, rfl, g1, z'⟩ := z.pop
    have hx := sl_dq g1
    rw [ht] at hx
    cases hx with
    | @tup l vs0 _ hH hd =>
      rw [gx_ixp] at hi
      cases hj : ixp ds.length i with
      | none => rw [hj] at hi; cases hi
      | some j =>
        rw [hj] at hi
        obtain ⟨w, hw, dw⟩ := dqAll_get j hd hi
        refine ⟨l, vs0, i, w, rfl, rfl, .inl (.inl (z'.sub _ _ hH)), ?_, q w H2 (z'.push (.val dw))⟩
        rw [atI_gx, gx_ixp, dqAll_len hd, hj]
        exact hw)
/-- tuple(xs) of a list of data -/
theorem je_tupL {α : Type} [DecidableEq α] [Datum α] {xs : List α} {p : Pos} (hm : X.mg "tuple" = none) (ha : JE X B S e S1 x) (hl : Lv X.K B S1 x (xs.map Slot.val)) (hg : Gl X "tuple" := by rfl) (hst : starEach [e] X.env = (false, eval e X.env) :: starEach [] X.env := by rfl) : JE X B S (.Call (.Name "tuple" p) [e] [] pos) S1 (.val (Tup.mk xs)) :=
  je_callT call_tuple_of hm rfl (ja_cons ha ja_nil hst) (oc1 fun T tv σ v H Q h q => by
    obtain ⟨G, as, bs, z⟩ := id h
    obtain ⟨l, vs, rfl, hr, hss⟩ := hl z
    obtain ⟨a1, a2, rfl, _, z1⟩ := z.pop
    refine ⟨l, vs, rfl, .inl ⟨hr, fun b hb => q _ _ (z1.newG hb (.val ?_))⟩⟩
    exact .tup upd_same (dqAll_mono (ex_upd (Ex.refl G) (ex_none z1.sub hb)) (ss_dqAll hss))) hg (he := hst)
end
theorem bndE {α β : Type} {m : Option α} {f : α → Option β} {r : β} (h : m.bind f = some r) : ∃ x, m = some x ∧ f x = some r := by
  cases m with
  | none => cases h
  | some x => exact ⟨x, rfl, h⟩
end J
namespace J
open PySem PySem.Spec PyProof.Rows L2
open PySem.W (Datum Tup)
section
variable {X : Cx} {B : Base} {S S1 S2 S3 : Stt} {x y z : Slot} {a b e o : Expr} {es : List Expr} {pos apos : Pos} {D : FE} {rest : List Stmt} {kk : Nat} {tg : Expr} {p : Addr}
def repG {α : Type} (xs : List α) (k : Int) : Option (List α) := if (-(2 ^ 63) ≤ k ∧ k < 2 ^ 63) ∧ xs.length * k.toNat ≤ 16777216 then some (List.replicate k.toNat xs).flatten else none
theorem SsI.rep {G H : Hp} {ss : List Slot} {vs : List V} (h : SsI G H ss vs []) : ∀ n : Nat, SsI G H (List.replicate n ss).flatten (List.replicate n vs).flatten []
  | 0 => .nil
  | n + 1 => by
    rw [List.replicate_succ, List.replicate_succ, List.flatten_cons, List.flatten_cons]
    exact h.app (SsI.rep h n)
theorem map_rep {α : Type} {β : Type 1} (f : α → β) (xs : List α) : ∀ n : Nat, (List.replicate n xs).flatten.map f = (List.replicate n (xs.map f)).flatten
  | 0 => rfl
  | n + 1 => by rw [List.replicate_succ, List.replicate_succ, List.flatten_cons, List.flatten_cons, List.map_append, map_rep f xs n]
theorem je_repG {α : Type} [DecidableEq α] [Datum α] {xs zs : List α} {k : Int} (ha : JE X B S a S1 x) (hb : JE X B S1 b S2 (.val k)) (h1 : Lh B S2 x (xs.map Slot.val)) (h : repG xs k = some zs) : JE X B S (.BinOp a .Mult b pos) S2 (.own (.lst (zs.map Slot.val))) := by
  unfold repG at h
  split at h
  · rename_i hk
    cases h
    rw [map_rep]
    refine je_op op_rep ha hb fun T tv σ v u H Q h q => ?_
    have e := h.int
    obtain ⟨G, as, bs, z⟩ := h
    obtain ⟨a1, a2, rfl, g1, z1⟩ := id z.pop
    obtain ⟨p1, vs1, rfl, hp1, hs1⟩ := h1 z1
    obtain ⟨a3, a4, rfl, _, z2⟩ := id z1.pop
    subst e
    exact ⟨p1, k, vs1, rfl, rfl, hp1, hk.1.1, hk.1.2, by rw [← hs1.len, List.length_map]; exact hk.2, fun r hr => q _ _ (z2.newO hr (.lst (hs1.any'.rep _)))⟩
  · cases h
def e2 {α β : Type} [DecidableEq α] [Datum α] [DecidableEq β] [Datum β] : Sum α β → Slot
  | .inl x => .val x
  | .inr x => .val x
end
end J
namespace J
open PySem PySem.Spec PyProof.Rows L2
open PySem.W (Datum Tup)
abbrev dks {β : Type} (m : List (Int × β)) : List Key := m.map fun q => Sum.inl q.1
abbrev dss {β : Type} [DecidableEq β] [Datum β] (m : List (Int × β)) : List Slot := m.map fun q => Slot.val q.2
def dget {β : Type} (m : List (Int × β)) (k : Int) : Option β := (m.find? fun q => decide (q.1 = k)).map (·.2)
def dhas {β : Type} (m : List (Int × β)) (k : Int) : Bool := (dget m k).isSome
def dput {β : Type} (m : List (Int × β)) (k : Int) (v : β) : List (Int × β) := if (m.any fun q => decide (q.1 = k)) = true then m.map (fun q => if q.1 = k then (q.1, v) else q) else m ++ [(k, v)]
def dputG {β : Type} (m : List (Int × β)) (k : Int) (v : β) : Option (List (Int × β)) := if m.length < 16777216 then some (dput m k v) else none
section
variable {β : Type} [DecidableEq β] [Datum β] {G H : Hp}
theorem dget_rel (k : Int) : ∀ {m : List (Int × β)} {gs : List (Key × V)} {as : List Addr}, dks m = gs.map (·.1) → SsI G H (dss m) (gs.map (·.2)) as → (dget m k = none ∧ valV gs (Sum.inl k) = none) ∨ ∃ t u, dget m k = some t ∧ valV gs (Sum.inl k) = some u ∧ SlI G H (.val t) u []
  | [], [], _, _, _ => .inl ⟨rfl, rfl⟩
  | [], _ :: _, _, h, _ => by simp [dks] at h
  | _ :: _, [], _, h, _ => by simp [dks] at h
  | q :: m, g :: gs, as, h, hs => by
    have h1 : (Sum.inl q.1 : Key) = g.1 := (List.cons.inj h).1
    have h2 : dks m = gs.map (·.1) := (List.cons.inj h).2
    cases hs with
    | cons s1 hs =>
      by_cases e : q.1 = k
      · have hg : g.1 = Sum.inl k := by rw [← h1, e]
        obtain rfl := SlI.nil s1 rfl
        refine .inr ⟨q.2, g.2, ?_, valV_pos hg, s1⟩
        unfold dget
        rw [List.find?_cons, decide_eq_true e]
        rfl
      · have hg : ¬ g.1 = Sum.inl k := by rw [← h1]; exact fun q2 => e (Sum.inl.inj q2)
        rw [valV_neg hg]
        have : dget (q :: m) k = dget m k := by
          unfold dget
          rw [List.find?_cons, decide_eq_false e]
        rw [this]
        exact dget_rel k h2 hs
theorem any_rel (k : Int) : ∀ {m : List (Int × β)} {gs : List (Key × V)}, dks m = gs.map (·.1) → (gs.any fun kv => decide (kv.1 = Sum.inl k)) = m.any fun q => decide (q.1 = k)
  | [], [], _ => rfl
  | [], _ :: _, h => by simp [dks] at h
  | _ :: _, [], h => by simp [dks] at h
  | q :: m, g :: gs, h => by
    have h1 : (Sum.inl q.1 : Key) = g.1 := (List.cons.inj h).1
    rw [List.any_cons, List.any_cons, any_rel k (List.cons.inj h).2, ← h1]
    congr 1
    rw [decide_eq_decide]
    exact ⟨Sum.inl.inj, fun e => by rw [e]⟩
theorem set_rel (k : Int) {v : β} {u : V} (hv : SlI G H (.val v) u []) : ∀ {m : List (Int × β)} {gs : List (Key × V)} {as : List Addr}, dks m = gs.map (·.1) → SsI G H (dss m) (gs.map (·.2)) as → dks (m.map fun q => if q.1 = k then (q.1, v) else q) = (gs.map fun kv => if kv.1 = Sum.inl k then (kv.1, u) else kv).map (·.1) ∧ SsI G H (dss (m.map fun q => if q.1 = k then (q.1, v) else q)) ((gs.map fun kv => if kv.1 = Sum.inl k then (kv.1, u) else kv).map (·.2)) []
  | [], [], _, _, _ => ⟨rfl, .nil⟩
  | [], _ :: _, _, h, _ => by simp [dks] at h
  | _ :: _, [], _, h, _ => by simp [dks] at h
  | q :: m, g :: gs, as, h, hs => by
    have h1 : (Sum.inl q.1 : Key) = g.1 := (List.cons.inj h).1
    cases hs with
    | cons s1 hs =>
      obtain ⟨i1, i2⟩ := set_rel k hv (List.cons.inj h).2 hs
      simp only [List.map_cons] at i1 i2 ⊢
      by_cases e : q.1 = k
      · have hg : g.1 = Sum.inl k := by rw [← h1, e]
        rw [if_pos e, if_pos hg]
        exact ⟨congr (congrArg List.cons h1) i1, .cons (as := []) hv i2⟩
      · have hg : ¬ g.1 = Sum.inl k := by rw [← h1]; exact fun q2 => e (Sum.inl.inj q2)
        rw [if_neg e, if_neg hg]
        obtain rfl := SlI.nil s1 rfl
        exact ⟨congr (congrArg List.cons h1) i1, .cons (as := []) s1 i2⟩
theorem put_rel (k : Int) {v : β} {u : V} (hv : SlI G H (.val v) u []) {m : List (Int × β)} {gs : List (Key × V)} (h : dks m = gs.map (·.1)) (hs : SsI G H (dss m) (gs.map (·.2)) []) : dks (dput m k v) = (putK gs (Sum.inl k) u).map (·.1) ∧ SsI G H (dss (dput m k v)) ((putK gs (Sum.inl k) u).map (·.2)) [] := by
  unfold dput putK
  rw [any_rel k h]
  by_cases c : (m.any fun q => decide (q.1 = k)) = true
  · rw [if_pos c, if_pos c]
    exact set_rel k hv h hs
  · rw [if_neg c, if_neg c]
    refine ⟨by unfold dks at h ⊢; rw [List.map_append, List.map_append, h]; rfl, ?_⟩
    show SsI G H (List.map _ (m ++ [(k, v)])) _ _
    rw [List.map_append, List.map_append]
    exact SsI.app hs (.cons (as := []) hv .nil)
theorem dss_plain (m : List (Int × β)) : ∀ s ∈ dss m, s.plain = true := fun s hs => by
  obtain ⟨q, _, rfl⟩ := List.mem_map.mp hs
  rfl
end
section
variable {X : Cx} {B : Base} {S S1 S2 S3 : Stt} {x y z : Slot} {a b e o : Expr} {es : List Expr} {pos apos : Pos} {D : FE} {rest : List Stmt} {kk : Nat} {tg : Expr} {p : Addr} {β : Type} [DecidableEq β] [Datum β] {m : List (Int × β)} {key : Int}
theorem Sta.dgetI {T : List Slot} {σ : L2.St} {tv : List V} {H : Hp} (h : Sta B S T σ tv H) (k : Nat) (hk : S.cs[k]? = some (p, .dk (dks m) (dss m))) : ∃ o : Option V, DGet H p (.int key) o ∧ o.isSome = dhas m key ∧ ∀ t, dget m key = some t → ∃ u, o = some u ∧ Sta B S (.val t :: T) σ (u :: tv) H := by
  obtain ⟨G, as, bs, z⟩ := h
  obtain ⟨oo, mm, hpp, hc, _, _, _, _⟩ := z.cellW hk (by intro e; cases e)
  cases hc with
  | @dk _ _ gs _ hks hss =>
    refine ⟨valV gs (Sum.inl key), DGet.k (k := Sum.inl key) hpp, ?_, fun t ht => ?_⟩
    · rcases dget_rel key hks hss with ⟨e1, e2⟩ | ⟨t, u, e1, e2, _⟩
      · unfold dhas; rw [e1, e2]; rfl
      · unfold dhas; rw [e1, e2]; rfl
    · rcases dget_rel key hks hss with ⟨e1, e2⟩ | ⟨t', u, e1, e2, su⟩
      · rw [e1] at ht; cases ht
      · rw [e1] at ht
        cases ht
        exact ⟨u, e2, z.push su⟩
/-- i in d -/
theorem jt_dinI (k : Nat) {i : Expr} (hr : Room kk X.A) (hi : JE X B S i S1 (.val key)) (ho : JE X B S1 o S2 (.v (.ref p))) (hk : S2.cs[k]? = some (p, .dk (dks m) (dss m))) (hm : behindInMarks .In o = false := by rfl) : JT X B S (.Compare i [.In] [o] pos) S2 (dhas m key) := fun T tv σ H Q h q =>
  pt1 (pt_cmp (pc_din (hu_of hr) pe0 pe0) hm) (hi _ _ _ _ _ h fun v1 H1 h1 => by
    have e := h1.int
    subst e
    refine ho _ _ _ _ _ h1 fun v2 H2 h2 => ?_
    have e := h2.exact
    subst e
    obtain ⟨o, hd, e, _⟩ := h2.drop.drop.dgetI (key := key) k hk
    exact ⟨p, o, rfl, hd, _, rfl, e ▸ q _ h2.drop.drop⟩)
theorem small16 {n : Nat} (h : n < 16777216) : n < sizeLine := by rw [sizeLine_eq]; omega
/-- d[i] = e -/
theorem js_dputI (k : Nat) {t : β} {m' : List (Int × β)} {i : Expr} {pos' : Pos} (hr : Room kk X.A) (he : JE X B S e S1 (.val t)) (ho : JE X B S1 o S2 (.v (.ref p))) (hi : JE X B S2 i S3 (.val key)) (hk : S3.cs[k]? = some (p, .dk (dks m) (dss m))) (hm : dputG m key t = some m') (kx : JS X B ⟨S3.sl, S3.cs.set k (p, .dk (dks m') (dss m'))⟩ rest D)
    (hs : swapsWith e (some (.Subscript o i pos')) pos.line X.env = pure false := by rfl) : JS X B S (.Assign [.Subscript o i pos'] e pos :: rest) D :=
  js_step (ps_dput (hu_of hr) pe0 pe0 pe0 hs) fun T tv σ H h => he _ _ _ _ _ h fun v H1 h1 => ho _ _ _ _ _ h1 fun w1 H2 h2 => by
    have e := h2.exact
    subst e
    refine hi _ _ _ _ _ h2 fun w2 H3 h3 => ?_
    have e := h3.int
    subst e
    obtain ⟨G, as, bs, z0⟩ := h3.drop.drop
    obtain ⟨a1, a2, rfl, hs1, z⟩ := z0.pop
    obtain rfl := hs1.nil rfl
    obtain ⟨oo, mm, hpp, hc, _, hm1, _, reb⟩ := z.cellW hk (by intro e; cases e)
    cases hc with
    | @dk _ _ gs _ hks hss =>
      obtain rfl := hss.plain (dss_plain m)
      unfold dputG at hm
      split at hm
      · rename_i hlt
        cases hm
        have hlen : gs.length = m.length := by
          have := congrArg List.length hks
          rw [List.length_map, List.length_map] at this
          exact this.symm
        obtain ⟨e1, e2⟩ := put_rel key hs1 hks hss
        have hnew : CeI G (upd H3 p (.dK (putK gs (Sum.inl key) v))) (.dk (dks (dput m key t)) (dss (dput m key t))) (.dK (putK gs (Sum.inl key) v)) [] := .dk e1 (SsI.mono e2 (Ex.refl G) fun a ha => nomatch ha)
        obtain ⟨bs', z3⟩ := reb hnew (List.Sublist.refl _)
        exact ⟨p, _, rfl, DPut.k (k := Sum.inl key) hpp (small16 (by omega)), kx _ _ _ _ z3.sta⟩
      · cases hm
end
section
variable {X : Cx} {B : Base} {S S1 S2 S3 : Stt} {x y z : Slot} {a b e o : Expr} {es : List Expr} {pos apos : Pos} {D : FE} {rest : List Stmt} {kk : Nat}
/-- {}, a dict by whole numbers -/
theorem je_disp0 {β : Type} [DecidableEq β] [Datum β] : JE X B S (.Dict [] [] pos) S (.own (.dk (dks ([] : List (Int × β))) (dss ([] : List (Int × β))))) := fun T tv σ H Q hs q =>
  pe1 pe_dnewK (fun p hp => by
    obtain ⟨G, as, bs, z⟩ := hs
    exact q _ _ (z.newO hp (.dk rfl .nil)))
end
end J
namespace J
open PySem PySem.Spec PyProof.Rows L2
open PySem.W (Datum Tup)
section
end
section
variable {X : Cx} {B : Base} {S S1 S2 S3 : Stt} {x y z : Slot} {a b c e o : Expr} {es : List Expr} {pos apos cpos : Pos} {D : FE} {rest : List Stmt} {kk : Nat} {tg : Expr} {p : Addr} {β : Type} [DecidableEq β] [Datum β] {m : List (Int × β)} {key : Int}
/-- len(d) -/
theorem je_dlen (k : Nat) {q : Pos} (hm : X.mg "len" = none) (ha : JE X B S e S1 (.v (.ref p))) (hk : S1.cs[k]? = some (p, .dk (dks m) (dss m))) (hg : Gl X "len" := by rfl) (hst : starEach [e] X.env = (false, eval e X.env) :: starEach [] X.env := by rfl) : JE X B S (.Call (.Name "len" q) [e] [] pos) S1 (.val (m.length : Int)) :=
  je_callB call_lenD hm (by decide +kernel) (ja_cons ha ja_nil hst) (oc1 fun T tv σ v H Q hs q => by
    have e := hs.exact
    subst e
    obtain ⟨G, as, bs, z⟩ := hs.drop
    obtain ⟨oo, mm, hpp, hc, _, _, _, _⟩ := z.cellW hk (by intro e; cases e)
    cases hc with
    | @dk _ _ gs _ hks hss =>
      have hl : gs.length = m.length := by
        have := congrArg List.length hks
        rw [List.length_map, List.length_map] at this
        exact this.symm
      exact ⟨p, gs, rfl, hpp, hl ▸ q _ _ (z.push (sl_int _))⟩) hg (by decide) (by decide) hst
def Stt.frz (S : Stt) (k : Nat) (p : Addr) (ob : Obj) (gs : List (Key × V)) (ss : List Slot) : Stt := ⟨S.sl, S.cs.set k (p, .fdk ob gs ss)⟩
theorem set_back {α : Type _} {l : List α} {k : Nat} {a b : α} (h : l[k]? = some b) : (l.set k a).set k b = l := by
  rw [List.set_set]
  apply List.ext_getElem?
  intro n
  rw [List.getElem?_set]
  by_cases e : k = n
  · subst e
    obtain ⟨hl, _⟩ := List.getElem?_eq_some_iff.mp h
    rw [if_pos rfl, if_pos hl, h]
  · rw [if_neg e]
theorem je_lockD (k : Nat) (hk : S.cs[k]? = some (p, .dk (dks m) (dss m))) (h : ∀ ob gs, dks m = gs.map (·.1) → JE X B ⟨S.sl, S.cs.set k (p, .fdk ob gs (dss m))⟩ e ⟨S.sl, S.cs.set k (p, .fdk ob gs (dss m))⟩ x) : JE X B S e S x := fun T tv σ H Q hs q => by
  obtain ⟨G, as, bs, z⟩ := hs
  obtain ⟨oo, mm, hpp, hc, _, _, _, reb⟩ := z.cellW hk (by intro e; cases e)
  cases hc with
  | @dk _ _ gs _ hks hss =>
    obtain rfl := hss.plain (dss_plain m)
    refine pe1 (pe_lock pe0) ⟨p, .dK gs, hpp, trivial, fun od => ?_⟩
    have hnew : CeI G (upd H p (.frz od (.dK gs))) (.fdk od gs (dss m)) (.frz od (.dK gs)) [] := .fdk (SsI.mono hss (Ex.refl G) fun a ha => nomatch ha)
    obtain ⟨bs', z3⟩ := reb hnew (List.Sublist.refl _)
    refine h od gs hks _ _ _ _ _ z3.sta fun v H' h2 => ?_
    obtain ⟨G2, as2, bs2, z4⟩ := h2
    have hk2 : (S.cs.set k (p, .fdk od gs (dss m)))[k]? = some (p, .fdk od gs (dss m)) := by
      obtain ⟨hl, _⟩ := List.getElem?_eq_some_iff.mp hk
      rw [List.getElem?_set, if_pos rfl, if_pos hl]
    obtain ⟨oo2, mm2, hpp2, hc2, _, _, _, reb2⟩ := z4.cellW hk2 (by intro e; cases e)
    cases hc2 with
    | @fdk _ _ _ _ hss2 =>
      obtain rfl := hss2.plain (dss_plain m)
      have hnew2 : CeI G2 (upd H' p (.dK gs)) (.dk (dks m) (dss m)) (.dK gs) [] := .dk hks (SsI.mono hss2 (Ex.refl G2) fun a ha => nomatch ha)
      obtain ⟨bs3, z5⟩ := reb2 hnew2 (List.Sublist.refl _)
      refine ⟨hpp2, q _ _ ?_⟩
      have := z5.sta
      rwa [set_back hk] at this
theorem ji_dkeys (k : Nat) {ob : Obj} {gs : List (Key × V)} (hks : dks m = gs.map (·.1)) (ha : JE X B S e S1 (.v (.ref p))) (hk : S1.cs[k]? = some (p, .fdk ob gs (dss m))) : JI X B S tg e S1 [.v (.ref p)] ((m.map (·.1)).map Slot.val) (fun S => S.cs[k]? = some (p, .fdk ob gs (dss m))) := fun T tv σ H R hs q =>
  pi1 (pi_keys pe0) (ha _ _ _ _ _ hs fun v H1 h1 => by
    have e := h1.exact
    subst e
    have at_ : ∀ {S : Stt} {T : List Slot} {σ : L2.St} {tv : List V} {H : Hp}, S.cs[k]? = some (p, .fdk ob gs (dss m)) → Sta B S T σ tv H → H p = some (.frz ob (.dK gs)) := fun {S T σ tv H} hk h => by
      obtain ⟨G, as, bs, z⟩ := h
      obtain ⟨oo, mm, hpp, hc, _, _, _, _⟩ := z.cellW hk (by intro e; cases e)
      cases hc with
      | @fdk _ _ _ _ hss => exact hpp
    have hl : gs.length = m.length := by
      have := congrArg List.length hks
      rw [List.length_map, List.length_map] at this
      exact this.symm
    have hp1 := at_ hk h1
    refine ⟨p, ob, rfl, .inl ⟨gs, hp1, q (Itk p ob gs) [.ref p] H1 rfl h1 ⟨fun S T σ tv H i s hS hi h => ?_, fun S T σ tv H hS h => ?_⟩⟩⟩
    · have hpp := at_ hS h
      rw [List.getElem?_map, List.getElem?_map] at hi
      cases qe : m[i]? with
      | none => rw [qe] at hi; cases hi
      | some pr =>
        rw [qe] at hi
        cases hi
        obtain ⟨hlt, _⟩ := List.getElem?_eq_some_iff.mp qe
        refine ⟨⟨hpp, by omega⟩, fun v H' hy => ?_⟩
        obtain ⟨rfl, k', v', hg, rfl⟩ := hy
        have e1 : (dks m)[i]? = some (Sum.inl pr.1) := by unfold dks; rw [List.getElem?_map, qe]; rfl
        rw [hks, List.getElem?_map, hg] at e1
        have e1 : k' = Sum.inl pr.1 := Option.some.inj e1
        subst e1
        exact h.push fun _ _ => sl_int _
    · exact ⟨at_ hS h, by rw [List.length_map, List.length_map]; omega⟩)
end
end J
namespace J
open PySem PySem.Spec PyProof.Rows L2
open PySem.W (Datum Tup)
def putS (f : Str) (y : Slot) : List (Str × Slot) → List (Str × Slot)
  | [] => [(f, y)]
  | (g, x) :: r => if g = f then (g, y) :: r else (g, x) :: putS f y r
section
variable {G H : Hp}
theorem fld_rel {f : Str} {s : Slot} (hp : s.plain = true) : ∀ {fs : List (Str × Slot)} {gs : List (Str × V)} {as : List Addr}, fs.map (·.1) = gs.map (·.1) → SsI G H (fs.map (·.2)) (gs.map (·.2)) as → fs.lookup f = some s → ∃ u, gs.lookup f = some u ∧ SlI G H s u []
  | [], [], _, _, _, h => by cases h
  | [], _ :: _, _, h, _, _ => by simp at h
  | _ :: _, [], _, h, _, _ => by simp at h
  | (g, x) :: fs, (g', v) :: gs, as, h, hs, hl => by
    have h1 : g = g' := (List.cons.inj h).1
    subst h1
    cases hs with
    | cons s1 hs =>
      rw [List.lookup_cons] at hl ⊢
      cases e : f == g with
      | true =>
        rw [e] at hl
        cases hl
        obtain rfl := SlI.nil s1 hp
        exact ⟨v, rfl, s1⟩
      | false =>
        rw [e] at hl
        exact fld_rel hp (List.cons.inj h).2 hs hl
theorem fld_none {f : Str} : ∀ {fs : List (Str × Slot)} {gs : List (Str × V)}, fs.map (·.1) = gs.map (·.1) → fs.lookup f = none → gs.lookup f = none
  | [], [], _, _ => rfl
  | [], _ :: _, h, _ => by simp at h
  | _ :: _, [], h, _ => by simp at h
  | (g, x) :: fs, (g', v) :: gs, h, hl => by
    have h1 : g = g' := (List.cons.inj h).1
    subst h1
    rw [List.lookup_cons] at hl ⊢
    cases e : f == g with
    | true => rw [e] at hl; cases hl
    | false =>
      rw [e] at hl
      exact fld_none (List.cons.inj h).2 hl
theorem put_fst (f : Str) (y : Slot) (v : V) : ∀ {fs : List (Str × Slot)} {gs : List (Str × V)}, fs.map (·.1) = gs.map (·.1) → (putS f y fs).map (·.1) = (putF f v gs).map (·.1)
  | [], [], _ => rfl
  | [], _ :: _, h => by simp at h
  | _ :: _, [], h => by simp at h
  | (g, x) :: fs, (g', w) :: gs, h => by
    have h1 : g = g' := (List.cons.inj h).1
    subst h1
    unfold putS putF
    by_cases e : g = f
    · rw [if_pos e, if_pos e]
      exact congrArg (List.cons g) (List.cons.inj h).2
    · rw [if_neg e, if_neg e]
      exact congrArg (List.cons g) (put_fst f y v (List.cons.inj h).2)
end
section
variable {X : Cx} {B : Base} {S S1 S2 S3 : Stt} {x y z : Slot} {a b c e o : Expr} {es : List Expr} {pos apos cpos : Pos} {D : FE} {rest : List Stmt} {kk lv : Nat} {tg : Expr} {p C : Addr} {fs : List (Str × Slot)} {f m : Str}
/-- o.f -/
theorem je_fget (k : Nat) {s : Slot} (cl : Cls X.K C) (na : NoAttr X.K C f) (ho : JE X B S o S1 (.v (.ref p))) (hk : S1.cs[k]? = some (p, .ins C fs)) (hl : fs.lookup f = some s) (hp : s.plain = true := by rfl) (hb : attributeBase o f X.env (eval o X.env) = eval o X.env := by rfl) : JE X B S (.Attribute o f pos) S1 s := fun T tv σ H Q h q =>
  pe1 (pe_fld pe0 hb) (ho _ _ _ _ _ h fun v1 H1 h1 => by
    have e := h1.exact
    subst e
    obtain ⟨G, as, bs, z⟩ := h1.drop
    obtain ⟨oo, mm, hpp, hc, _, _, _, _⟩ := z.cellW hk (by intro e; cases e)
    cases hc with
    | @ins _ dx _ gs _ hks hss =>
      obtain ⟨u, hu, su⟩ := fld_rel hp hks hss hl
      exact ⟨p, C, dx, gs, u, rfl, hpp, cl, na, hu, q _ _ (z.push su)⟩)
theorem je_mth {γ : Type} {fr : FS γ} {fa : Addr} {fd : FuncData} {ps : List Str} {xs : List Slot} {cs1 cs2 : List (Addr × Cel)} (k0 : Nat) (cl : Cls X.K C) (hm : Meth X.K C m fa) (F : FnOk X.prog X.w X.K X.mg X.base CX0 kk fa fd ps fr.sp) (hr : Room lv X.A) (hlv : kk ≤ lv) (hb : Binds X.K fd ps [])
    (ho : JE X B S o S1 (.v (.ref p))) (hk : S1.cs[k0]? = some (p, .ins C fs)) (hnl : fs.lookup m = none) (ha : JA X B S1 (e :: es) S2 xs) (g : γ) (hpre : fr.pre g) (hx : fr.args g = .v (.ref p) :: xs) (hpk : Pk S2.cs (fr.cells g) cs1) (hpt : Pt cs1 (fr.cells' g) cs2) (hG : ∀ G', Ex B.G G' → fr.preG g G' := by exact fun _ _ => trivial)
    (hst : starEach (e :: es) X.env = (false, eval e X.env) :: starEach es X.env := by rfl) (hpl : (backTo cpos (starEach es X.env)).any (·.1) = false := by rfl) {pl : Sem Bool}
    (ht : eval (.Call (.Attribute o m apos) (e :: es) [] cpos) X.env = (do
      let ov ← eval o X.env
      standAt apos.atName
      let (f, first) ← holding [ov] (getMethod ov m pl)
      callWith cpos f first (backTo cpos (starEach (e :: es) X.env)) (backToKw cpos (keywordEach [] X.env))) := by rfl) : JE X B S (.Call (.Attribute o m apos) (e :: es) [] cpos) ⟨S2.sl, cs2⟩ (fr.res g) := fun T tv σ H Q h q =>
  pe1 (pe_meth pe0 cl hm F (hr.mono hlv) hb .nil pass0 pa0 hst hpl ht) (ho _ _ _ _ _ h fun v1 H1 h1 => by
    have ev := h1.exact
    subst ev
    have at_ : ∃ dx gs, H1 p = some (.ins C dx gs) ∧ gs.lookup m = none := by
      obtain ⟨G, as, bs, z⟩ := id h1.drop
      obtain ⟨oo, mm, hpp, hc, _, _, _, _⟩ := z.cellW hk (by intro e; cases e)
      cases hc with
      | @ins _ dx _ gs _ hks hss => exact ⟨dx, gs, hpp, fld_none hks hnl⟩
    obtain ⟨dx, gs, hpp, hgl⟩ := at_
    refine ⟨p, dx, gs, rfl, hpp, hgl, ha _ _ _ _ _ h1 fun vs H2 hl h2 => ?_⟩
    rw [List.append_nil]
    exact sp_of (xs := .v (.ref p) :: xs) fr g hpre hG hx (congrArg Nat.succ hl) hpk hpt (Sta.rot hl.symm h2) q)
theorem je_mk {γ : Type} {fr : FS γ} {fi : Addr} {fd : FuncData} {ps : List Str} {xs : List Slot} {fs' : List (Str × Slot)} {n : Str} {q : Pos} (M : Mk X.K C fi) (F : FnOk X.prog X.w X.K X.mg X.base CX0 kk fi fd ps fr.sp) (hr : Room lv X.A) (hlv : kk + 1 ≤ lv) (hm : X.mg n = some (.ref C)) (hb : Binds X.K fd ps [])
    (ha : JA X B S (e :: es) S1 xs) (g : Addr → γ) (hpre : ∀ x, fr.pre (g x)) (hx : ∀ x, fr.args (g x) = .v (.ref x) :: xs) (hc : ∀ x, fr.cells (g x) = [(x, .ins C [])]) (hc' : ∀ x, fr.cells' (g x) = [(x, .ins C fs')]) (hres : ∀ x, fr.res (g x) = .v .non) (hG : ∀ x G', Ex B.G G' → fr.preG (g x) G' := by exact fun _ _ _ => trivial) (hg : Gl X n := by rfl)
    (hdb : (n == ("__debug__" : Str)) = false := by decide) (hst : starEach (e :: es) X.env = (false, eval e X.env) :: starEach es X.env := by rfl) (hpl : (backTo pos (starEach es X.env)).any (·.1) = false := by rfl) : JE X B S (.Call (.Name n q) (e :: es) [] pos) S1 (.own (.ins C fs')) := fun T tv σ H Q h q' =>
  pe1 (pe_make M F (hr.mono hlv) hg hm hb .nil pass0 pa0 hdb hst hpl) (ha _ _ _ _ _ h fun vs H1 hl h1 x dx hx1 hdx hne => by
    obtain ⟨G, as, bs, z⟩ := h1
    have h2 := (z.newG (x := .v (.ref dx)) (o := .own x) hdx .v).drop
    have hx2 : (upd H1 dx (.own x)) x = none := by rw [upd_ne (Ne.symm hne)]; exact hx1
    obtain ⟨G2, as2, bs2, z2⟩ := h2
    have h3 := z2.newO (c := .ins C []) (o := .ins C dx []) hx2 (.ins rfl .nil)
    obtain ⟨p', e', h4⟩ := h3.name
    cases e'
    rw [List.append_nil]
    have hk : (S1.cs ++ [(x, Cel.ins C [])])[S1.cs.length]? = some (x, .ins C []) := by rw [List.getElem?_append_right (Nat.le_refl _), Nat.sub_self]; rfl
    have s1 : ∀ c, (S1.cs ++ [(x, Cel.ins C [])]).set S1.cs.length (x, c) = S1.cs ++ [(x, c)] := fun c => by rw [List.set_append_right _ _ (Nat.le_refl _), Nat.sub_self]; rfl
    have s2 : ∀ c, (S1.cs ++ [(x, Cel.gone)]).set S1.cs.length (x, c) = S1.cs ++ [(x, c)] := fun c => by rw [List.set_append_right _ _ (Nat.le_refl _), Nat.sub_self]; rfl
    refine sp_of (xs := .v (.ref x) :: xs) (cs1 := S1.cs ++ [(x, .gone)]) (cs2 := S1.cs ++ [(x, .ins C fs')]) fr (g x) (hpre x) (hG x) (hx x) (congrArg Nat.succ hl) ?_ ?_ h4 fun w H' h5 => ?_
    · rw [hc]
      exact .cons S1.cs.length hk (by nofun) (by rw [s1]; exact .nil)
    · rw [hc']
      exact .cons S1.cs.length (by rw [List.getElem?_append_right (Nat.le_refl _), Nat.sub_self]; rfl) (by rw [s2]; exact .nil)
    · rw [hres] at h5
      have ew := h5.exact
      subst ew
      refine ⟨rfl, ?_⟩
      have h6 : Sta B ⟨S1.sl, S1.cs ++ [(x, .ins C fs')]⟩ (.v (.ref x) :: T) σ (.ref x :: tv) H' := h5.drop.push fun _ _ => .v
      have hk2 : (S1.cs ++ [(x, Cel.ins C fs')])[S1.cs.length]? = some (x, .ins C fs') := by rw [List.getElem?_append_right (Nat.le_refl _), Nat.sub_self]; rfl
      have h7 := (h6.own S1.cs.length hk2 (by nofun)).take S1.cs.length
      have e7 : ((S1.cs ++ [(x, Cel.ins C fs')]).set S1.cs.length (x, .gone)).take S1.cs.length = S1.cs := by
        rw [List.set_append_right _ _ (Nat.le_refl _), List.take_left']
        rfl
      exact q' _ _ (by
        have := h7
        dsimp only at this
        rw [e7] at this
        exact this))
end
end J
namespace J
open PySem PySem.Spec PyProof.Rows L2
open PySem.W (Datum Tup)
def pick {α : Type} (ord : List Nat) (xs : List α) : List α := ord.filterMap fun i => xs[i]?
theorem vals_get? {xs : List V} {us : List Value} (r : Vals xs us) (i : Nat) : (xs[i]? = none ∧ us[i]? = none) ∨ ∃ x u, xs[i]? = some x ∧ us[i]? = some u ∧ RelV x u := by
  cases e : xs[i]? with
  | none =>
    refine .inl ⟨rfl, ?_⟩
    rw [List.getElem?_eq_none_iff] at e ⊢
    rw [← r.length]
    exact e
  | some x =>
    obtain ⟨u, hu, ru⟩ := r.get e
    exact .inr ⟨x, u, rfl, hu, ru⟩
theorem pick_vals {xs : List V} {us : List Value} (r : Vals xs us) : ∀ ord : List Nat, Vals (pick ord xs) (pick ord us)
  | [] => .nil
  | i :: ord => by
    unfold pick
    rw [List.filterMap_cons, List.filterMap_cons]
    rcases vals_get? r i with ⟨e1, e2⟩ | ⟨x, u, e1, e2, ru⟩
    · rw [e1, e2]
      exact pick_vals r ord
    · rw [e1, e2]
      exact .cons ru (pick_vals r ord)
theorem sl_str {G H : Hp} (x : Str) : SlI G H (.val x) (.str x) [] := .val (.str x)
section
variable {X : Cx} {B : Base} {S S1 S2 S3 : Stt} {x y z : Slot} {a b c e o : Expr} {es : List Expr} {pos apos cpos : Pos} {D : FE} {rest : List Stmt} {kk lv : Nat} {tg : Expr} {kws : List Keyword}
/-- f(e, .., k = v, ..), what lacks filled up -/
theorem je_callN {γ : Type} {f : FS γ} {fa : Addr} {fd : FuncData} {ps ks : List Str} {nn : Nat} {n : Str} {q : Pos} {xs zs : List Slot} {cs1 cs2 : List (Addr × Cel)} {g0 : List Value → List Value → List Value → List Value} {gV : List V → List V → List V} (F : FnOk X.prog X.w X.K X.mg X.base CX0 kk fa fd ps f.sp) (hr : Room lv X.A) (hlv : kk ≤ lv) (hm : X.mg n = some (.ref fa)) (hk : PySem.W.keepIn X.K (.ref fa) = true) (hb : ∃ mv : List Value, KBn X.K fd ps nn ks (fun us ws => g0 us mv ws) gV)
    (ha : JA X B S (e :: es) S1 xs) (hkw : JK X B S1 kws S2 zs) (g : γ) (hpre : f.pre g) (hn : xs.length = nn) (hkl : zs.length = ks.length) (hx : ∀ {T : List Slot} {σ : L2.St} {vs ws tv : List V} {H : Hp}, vs.length = xs.length → ws.length = zs.length → Sta B S2 (zs ++ (xs ++ T)) σ (ws ++ (vs ++ tv)) H → (gV vs ws).length = (f.args g).length ∧ Sta B S2 (f.args g ++ T) σ (gV vs ws ++ tv) H) (hpk : Pk S2.cs (f.cells g) cs1) (hpt : Pt cs1 (f.cells' g) cs2) (hG : ∀ G', Ex B.G G' → f.preG g G' := by exact fun _ _ => trivial) (hg : Gl X n := by rfl)
    (hall : (backToKw pos (keywordEach kws X.env)).all (·.1.isSome) = true := by rfl) (hks : (backToKw pos (keywordEach kws X.env)).filterMap (·.1) = ks := by rfl)
    (hdb : (n == ("__debug__" : Str)) = false := by decide) (he : starEach (e :: es) X.env = (false, eval e X.env) :: starEach es X.env := by rfl)
    (hpl : ((backTo pos (starEach (e :: es) X.env)).any (·.1) || (backToKw pos (keywordEach kws X.env)).any (·.1.isNone)) = false := by rfl) :
    JE X B S (.Call (.Name n q) (e :: es) kws pos) ⟨S2.sl, cs2⟩ (f.res g) := fun T tv σ H Q h qq => by
  obtain ⟨mv, hb⟩ := hb
  refine pe1 (pe_callN F (hr.mono hlv) hg hm hk hb pass0 pa0 pk0 hall hks hdb he hpl) (ha _ _ _ _ _ h fun vs H1 hl h1 => hkw _ _ _ _ _ h1 fun ws H2 hl2 h2 => ?_)
  obtain ⟨l3, h3⟩ := hx hl hl2 h2
  exact ⟨hl.trans hn, hl2.trans hkl, sp_of f g hpre hG rfl l3 hpk hpt h3 qq⟩
end
end J
namespace J
open PySem PySem.Spec PyProof.Rows L2
open PySem.W (Datum Tup)
theorem dqAll_length {G : Hp} : ∀ {vs : List V} {ds : List PyData}, DqAll G vs ds → vs.length = ds.length
  | _, _, .nil => rfl
  | _, _, .cons _ h => congrArg Nat.succ (dqAll_length h)
section
variable {X : Cx} {B : Base} {S S1 S2 S3 : Stt} {x y z : Slot} {a b c e o : Expr} {es : List Expr} {pos apos cpos : Pos} {D : FE} {rest : List Stmt} {kk lv : Nat} {tg : Expr} {kws : List Keyword} {p : Addr}
/-- len of a written tuple -/
theorem je_lenT {q : Pos} {α : Type} [DecidableEq α] [Datum α] {t : α} {ds : List PyData} {n : Int} (hm : X.mg "len" = none) (ha : JE X B S e S1 (.val t)) (ht : Datum.toD t = .tuple ds) (hn : (ds.length : Int) = n) (hg : Gl X "len" := by rfl) (hst : starEach [e] X.env = (false, eval e X.env) :: starEach [] X.env := by rfl) : JE X B S (.Call (.Name "len" q) [e] [] pos) S1 (.val n) :=
  je_callB call_len_seq hm boot_len (ja_cons ha ja_nil hst) (oc1 fun T tv σ v H Q hs q => by
    obtain ⟨G, as, bs, z⟩ := id hs
    obtain ⟨a1, a2, rfl, g, _⟩ := z.pop
    have d := sl_dq g
    rw [ht] at d
    cases d with
    | @tup l vs _ hH hd =>
      refine ⟨l, vs, rfl, .inr (.inl (.inl (z.sub _ _ hH))), ?_⟩
      rw [dqAll_length hd, hn]
      exact q _ _ (hs.drop.push fun _ _ => sl_int _)) hg (by decide) (by decide) hst
/-- o.m() -/
theorem je_mth0 {γ : Type} {fr : FS γ} {C fa : Addr} {m : Str} {fs : List (Str × Slot)} {fd : FuncData} {ps : List Str} {cs1 cs2 : List (Addr × Cel)} (k0 : Nat) (cl : Cls X.K C) (hm : Meth X.K C m fa) (F : FnOk X.prog X.w X.K X.mg X.base CX0 kk fa fd ps fr.sp) (hr : Room lv X.A) (hlv : kk ≤ lv) (hb : Binds X.K fd ps [])
    (ho : JE X B S o S1 (.v (.ref p))) (hk : S1.cs[k0]? = some (p, .ins C fs)) (hnl : fs.lookup m = none) (g : γ) (hpre : fr.pre g) (hx : fr.args g = [.v (.ref p)]) (hpk : Pk S1.cs (fr.cells g) cs1) (hpt : Pt cs1 (fr.cells' g) cs2) (hG : ∀ G', Ex B.G G' → fr.preG g G' := by exact fun _ _ => trivial) {pl : Sem Bool}
    (ht : eval (.Call (.Attribute o m apos) [] [] cpos) X.env = (do
      let ov ← eval o X.env
      standAt apos.atName
      let (f, first) ← holding [ov] (getMethod ov m pl)
      callWith cpos f first (backTo cpos (starEach [] X.env)) (backToKw cpos (keywordEach [] X.env))) := by rfl) : JE X B S (.Call (.Attribute o m apos) [] [] cpos) ⟨S1.sl, cs2⟩ (fr.res g) := fun T tv σ H Q h q =>
  pe1 (pe_meth0 pe0 cl hm F (hr.mono hlv) hb .nil pass0 ht) (ho _ _ _ _ _ h fun v1 H1 h1 => by
    have ev := h1.exact
    subst ev
    have at_ : ∃ dx gs, H1 p = some (.ins C dx gs) ∧ gs.lookup m = none := by
      obtain ⟨G, as, bs, z⟩ := id h1.drop
      obtain ⟨oo, mm, hpp, hc, _, _, _, _⟩ := z.cellW hk (by intro e; cases e)
      cases hc with
      | @ins _ dx _ gs _ hks hss => exact ⟨dx, gs, hpp, fld_none hks hnl⟩
    obtain ⟨dx, gs, hpp, hgl⟩ := at_
    exact ⟨p, dx, gs, rfl, hpp, hgl, sp_of (E := fun _ _ _ => False) (xs := [.v (.ref p)]) fr g hpre hG hx rfl hpk hpt h1 q⟩)
end
end J
namespace J
open PySem L2
open PySem.Spec PyProof.Rows
open PySem.W (Datum)
section
end
section
end
end J
namespace J
open PySem L2
open PySem.W (Datum)
def ExA (a : Addr) (cls : Value) (d : Option Addr) : Heap → Prop := fun h => ∃ oe vs, h.get? a = some oe ∧ oe.cls = cls ∧ oe.dict = d ∧ oe.data = .fields vs ∧ vs[2]? = some .none
end J
namespace J
open PySem PySem.Spec PyProof.Rows L2
section
end
end J
namespace J
open PySem L2
open PySem.W (Datum)
abbrev exa (a : Addr) (cls : Value) (d : Option Addr) : HO := .ext (ExA a cls d)
section
variable {α : Type} [DecidableEq α] [Datum α]
/-- a refusal of the class at C, that bears w -/
def Xc (C : Addr) (w : α) : Hp → V → Prop := fun G u => ∃ (a d : Addr) (v : V), u = .ref a ∧ G a = some (exa a (.ref C) (some d)) ∧ G d = some (.xd [(("what" : Str), v)]) ∧ Dq G v (Datum.toD w)
end
section
end
section
end
end J
namespace J
open PySem L2
open PySem.W (Datum)
section
end
section
end
end J
namespace J
open PySem L2
open PySem.W (Datum)
section
end
section
variable {α : Type} [DecidableEq α] [Datum α]
/-- a refusal by name: those that there are, where their classes stand -/
structure Xw where
  ns : List Str
  xc : Str → Addr
def XcN (K : Xw) (x : Str × α) : Hp → V → Prop := fun G u => x.1 ∈ K.ns ∧ Xc (K.xc x.1) x.2 G u
def xsl (K : Xw) : Option (Str × α) → Slot
  | none => .v .non
  | some x => .say (XcN K x)
section
end
end
end J
namespace J
open PySem L2
open PySem.W (Datum)
section
end
section
end
/-- names that stand for classes -/
inductive NmL (X : Cx) : List Expr → List V → List Value → Prop where
  | nil : NmL X [] [] []
  | own {n : Str} {p : Pos} {C : Addr} {es : List Expr} {cs : List V} {us : List Value} (hg : Gl X n) (hm : X.mg n = some (.ref C)) (hd : (n == ("__debug__" : Str)) = false) (r : NmL X es cs us) : NmL X (.Name n p :: es) (.ref C :: cs) (.ref C :: us)
theorem NmL.cls {X : Cx} {es : List Expr} {cs : List V} {us : List Value} (h : NmL X es cs us) : Paired ClsV cs us := by
  induction h with
  | nil => exact .nil
  | own _ _ _ _ ih => exact .cons (.own _) ih
theorem NmL.len {X : Cx} {es : List Expr} {cs : List V} {us : List Value} (h : NmL X es cs us) : cs.length = es.length := by
  induction h with
  | nil => rfl
  | own _ _ _ _ ih => exact congrArg Nat.succ ih
abbrev Xw.all (K : Xw) : List Str := ("PageError" : Str) :: K.ns
section
section
end
end
end J
namespace J
open PySem L2
open PySem.W (Datum)
abbrev oo (a b : Option (Option Value)) : Bool := decide (a = b)
end J
namespace J
open PySem L2
open PySem.W (Datum)
theorem xsl_plain {α : Type} [DecidableEq α] [Datum α] {K : Xw} {o : Option (Str × α)} : (xsl K o).plain = true := by cases o <;> rfl
end J
namespace J
open PySem L2 LamX
open PySem.Spec PyProof.Rows
open PySem.W (Datum)
section
end
end J
namespace J
open PySem L2 LamX
open PySem.Spec PyProof.Rows
open PySem.W (Datum)
section
end
end J
namespace J
open PySem L2 LamX
open PySem.Spec PyProof.Rows
open PySem.W (Datum)
section
variable {X : Cx} {pins : List (Addr × Obj)} {σ : L2.St} {Ψ : Hp → Prop} {ws : List V} {kf : Nat → Int} {l f I S : Addr} {R : Result → Shared → Prop}
theorem two_moved {H : Hp} {s : Shared} {g : Heap} {tk : Nat} (V : Inv X pins σ H s) (fI : FpOk X pins H I) (fS : FpOk X pins H S) (k : ∀ b o, b ≠ I → b ≠ S → s.heap.get? b = some o → g.get? b = some o) : Inv X pins σ H { s with heap := g, toks := tk } :=
  V.turnedL (ch := [I, S]) (fun b o hb e => k b o (fun z => hb (by simp [z])) (fun z => hb (by simp [z])) e) fun b hb => by
    have e : b = I ∨ b = S := by simpa using hb
    rcases e with e | e <;> rw [e] <;> assumption
/-- what stands at a turn -/
structure MaxAt (X : Cx) (pins : List (Addr × Obj)) (σ : L2.St) (Ψ : Hp → Prop) (l I S : Addr) (H : Hp) (n : Nat) (data : Array Value) (s : Shared) : Prop where
  inv : Inv X pins σ H s
  psi : Ψ H
  fI : FpOk X pins H I
  fS : FpOk X pins H S
  ne : S ≠ I
  it : s.heap.IsListIter I l n
  acc : ∃ c, s.heap.get? S = some (seqObj "list" data c)
theorem MaxAt.lI {H : Hp} {n : Nat} {data : Array Value} {s : Shared} (m : MaxAt X pins σ Ψ l I S H n data s) (hl : ∀ (H : Hp) (s : Shared), Inv X pins σ H s → Ψ H → ∃ its : List Value, Vals ws its ∧ s.heap.IsList l its.toArray) : l ≠ I := fun e => by
  obtain ⟨o, h1, h2, _⟩ := m.it
  obtain ⟨its, _, o2, h3, h4, _⟩ := hl H s m.inv m.psi
  rw [e, h1] at h3
  rw [← Option.some.inj h3, h2] at h4
  exact absurd h4 (by decide)
/-- the key is asked -/
theorem MaxAt.ask {H : Hp} {n i : Nat} {data : Array Value} {s : Shared} {v : Value} {Q : Value → Shared → Prop} {E : Value → Shared → Prop} (m : MaxAt X pins σ Ψ l I S H n data s)
    (turn : ∀ (ps : List (Addr × Obj)) (H : Hp) (s : Shared), Inv X ps σ H s → Ψ H → wpAny (model X.prog X.w) X.A.in1 (call (.ref f) [v]) (EP X ps σ fun w H' => w = .int (kf i) ∧ Ψ H') (fun _ _ => False) s)
    (q : ∀ (t : Tok) (H' : Hp) (s' : Shared), MaxAt X pins σ Ψ l I S H' n data s' → Q (.int (kf i) t) s') : wpAny (model X.prog X.w) X.A.in1 (call (.ref f) [v]) Q E s := by
  obtain ⟨c, hS⟩ := m.acc
  obtain ⟨oI, hI, cI, dI⟩ := id m.it
  have V2 := m.inv.pinned (fp := [I, S]) (fun b hb => by
    have e : b = I ∨ b = S := by simpa using hb
    rcases e with e | e <;> rw [e]
    · exact m.fI
    · exact m.fS) (fun b hb => by
    have e : b = I ∨ b = S := by simpa using hb
    rcases e with e | e <;> rw [e]
    · exact ⟨oI, hI, fun v z => by rw [dI] at z; cases z⟩
    · exact ⟨_, hS, fun v z => by cases z⟩)
  refine wpAny_mono (turn _ _ _ V2 m.psi) (fun u s' hu => ?_) fun _ _ z => z.elim
  obtain ⟨w, H', V3, ru, ew, hp⟩ := hu
  subst ew
  obtain ⟨t, rfl⟩ : ∃ t, u = .int (kf i) t := ru
  have pI := V3.pin (I, oI) (List.mem_append_right _ (List.mem_append_right _ (mem_pinsAt (by simp) hI)))
  have pS := V3.pin (S, seqObj "list" data c) (List.mem_append_right _ (List.mem_append_right _ (mem_pinsAt (by simp) hS)))
  exact q t H' s' ⟨V3.unpinned, hp, ⟨pI.2.1, m.fI.2⟩, ⟨pS.2.1, m.fS.2⟩, m.ne, ⟨oI, pI.1, cI, dI⟩, ⟨c, pS.1⟩⟩
theorem MaxAt.next {H : Hp} {n : Nat} {data : Array Value} {s : Shared} {y : V} {Q : Option Value → Shared → Prop} {E : Value → Shared → Prop} (hc : X.A.handled = none) (hl : ∀ (H : Hp) (s : Shared), Inv X pins σ H s → Ψ H → ∃ its : List Value, Vals ws its ∧ s.heap.IsList l its.toArray) (m : MaxAt X pins σ Ψ l I S H n data s) (hv : ws[n]? = some y) (hQ : ∀ v s', RelV y v → MaxAt X pins σ Ψ l I S H (n + 1) data s' → Q (some v) s') :
    wpAny (model X.prog X.w) X.A.in1 (pyNext (.ref I)) Q E s := by
  obtain ⟨its, rv, isl⟩ := hl _ _ m.inv m.psi
  have Wk := Walks.list (prog := X.prog) (w := X.w) (A := X.A.in1) hc I l (m.lI hl) its.toArray
  obtain ⟨v, e1, e2⟩ := rv.get hv
  have hlt : n < its.length := (List.getElem?_eq_some_iff.mp e1).1
  refine Wk.item n _ _ _ (by simpa using hlt) ⟨m.it, isl⟩ fun v' g tk hP st hk => ?_
  have e : v' = v := by
    have : its[n]? = some v' := by simpa using hP
    rw [e1] at this
    exact (Option.some.inj this).symm
  subst e
  obtain ⟨c, hS⟩ := m.acc
  exact hQ _ _ e2 ⟨two_moved m.inv m.fI m.fS fun b o h1 _ e => hk b o (by simpa using h1) e, m.psi, m.fI, m.fS, m.ne, st.1, ⟨c, hk S _ (by simpa using m.ne) hS⟩⟩
end
end J
namespace J
open PySem L2 LamX
open PySem.Spec PyProof.Rows
open PySem.W (Datum)
section
end
end J
namespace J
open PySem L2 LamX
open PySem.Spec PyProof.Rows
open PySem.W (Datum)
end J
namespace J
open PySem L2
open PySem.Spec PyProof.Rows
open PySem.W (Datum)
section
end
end J
namespace J
end J
namespace J
open PySem L2
open PySem.W (Datum)
section
end
section
end
end J
namespace J
open PySem L2
open PySem.Spec PyProof.Rows
open PySem.W (Datum)
section
end
section
end
section
end
section
end
end J
namespace J
open PySem L2
open PySem.W (Datum)
structure H2 (α β : Type) where
  a : α
  b : β
deriving DecidableEq
section
variable {α β : Type} [DecidableEq α] [Datum α] [DecidableEq β] [Datum β]
instance : Datum (H2 α β) where
  toD p := .list [Datum.toD p.a, Datum.toD p.b]
  plain p := by simp only [PyData.plain, PyData.plainAll, Datum.plain, Bool.and_self]
  eqv p q := by
    simp only [PyData.eqv, PyData.eqvAll]
    rw [Datum.eqv, Datum.eqv, Bool.and_true, ← Bool.decide_and]
    refine decide_eq_decide.mpr ⟨fun e => ?_, fun e => by rw [e]; exact ⟨rfl, rfl⟩⟩
    cases p
    cases q
    cases e.1
    cases e.2
    rfl
  depth := max (Datum.depth α) (Datum.depth β) + 1
  depth_le p := by
    simp only [PyData.depth, PyData.depthAll]
    exact Nat.succ_le_succ (Nat.max_le.mpr ⟨Nat.le_trans (Datum.depth_le p.a) (Nat.le_max_left _ _), Nat.max_le.mpr ⟨Nat.le_trans (Datum.depth_le p.b) (Nat.le_max_right _ _), Nat.zero_le _⟩⟩)
variable {B : Base} {S : Stt}
end
end J
namespace J
open PySem L2
open PySem.Spec PyProof.Rows
open PySem.W (Datum)
section
end
section
end
end J
namespace J
universe u w
open PySem L2
open PySem.W (Datum DatumOrd Holds HoldAll T3 T4)
def dOf {β : Type} (ys : List (Int × β)) : List (Int × β) := ys.foldl (fun m q => dput m q.1 q.2) []
theorem dOf_snoc {β : Type} (ys : List (Int × β)) (y : Int × β) : dOf (ys ++ [y]) = dput (dOf ys) y.1 y.2 := by
  unfold dOf
  rw [List.foldl_append]
  rfl
theorem dput_le {β : Type} (m : List (Int × β)) (k : Int) (v : β) : (dput m k v).length ≤ m.length + 1 := by
  unfold dput
  split
  · rw [List.length_map]; omega
  · rw [List.length_append]; simp
theorem dOf_len {β : Type} (ys : List (Int × β)) : (dOf ys).length ≤ ys.length := by
  have : ∀ (ys : List (Int × β)) (m : List (Int × β)), (ys.foldl (fun m q => dput m q.1 q.2) m).length ≤ m.length + ys.length := by
    intro ys
    induction ys with
    | nil => intro m; exact Nat.le_refl _
    | cons y ys ih =>
      intro m
      have h1 := ih (dput m y.1 y.2)
      have h2 := dput_le m y.1 y.2
      rw [List.foldl_cons, List.length_cons]
      omega
  have h := this ys []
  rw [List.length_nil, Nat.zero_add] at h
  exact h
section
variable {X : Cx} {B : Base} {S S1 S2 S3 : Stt} {x y z : Slot} {a b e o : Expr} {es : List Expr} {pos apos : Pos} {D : FE} {rest : List Stmt} {k : Nat} {tg : Expr}
theorem Sta.putT {β : Type} [DecidableEq β] [Datum β] {T : List Slot} {σ : L2.St} {tv : List V} {H : Hp} {m : List (Int × β)} {t : β} {key : Int} {w kv : V} {D : Addr} (h : Sta B S (.val t :: .val key :: .own (.dk (dks m) (dss m)) :: T) σ (w :: kv :: .ref D :: tv) H) :
    ∃ gs, kv = kV (Sum.inl key) ∧ H D = some (.dK gs) ∧ gs.length = m.length ∧ Sta B S (.own (.dk (dks (J.dput m key t)) (dss (J.dput m key t))) :: T) σ (.ref D :: tv) (upd H D (.dK (putK gs (Sum.inl key) w))) := by
  have ek := h.drop.int
  obtain ⟨G, as, bs, z⟩ := h
  obtain ⟨a1, a2, rfl, g1, z1⟩ := z.pop
  obtain rfl := g1.nil rfl
  obtain ⟨a3, a4, rfl, g2, z2⟩ := z1.pop
  obtain rfl := g2.nil rfl
  obtain ⟨a5, a6, rfl, g3, z3⟩ := z2.pop
  cases g3 with
  | @own _ _ oo mm hD hc =>
    cases hc with
    | @dk _ _ gs _ hks hss =>
      obtain rfl := hss.plain (dss_plain m)
      have hlen : gs.length = m.length := by
        have := congrArg List.length hks
        rw [List.length_map, List.length_map] at this
        exact this.symm
      refine ⟨gs, ek, hD, hlen, ?_⟩
      have nd : (D :: (a6 ++ bs)).Nodup := by simpa using z.nod
      have nD : ∀ a ∈ a6 ++ bs, a ≠ D := fun a ha e => (List.nodup_cons.mp nd).1 (e ▸ ha)
      have fr := fun a (ha : a ∈ D :: (a6 ++ bs)) => z.fre a (by simpa using ha)
      have hG : G D = none := (fr D (by simp)).1
      have hF : B.F D = none := (fr D (by simp)).2
      obtain ⟨e1, e2⟩ := put_rel key g1 hks hss
      have hnew : CeI G (upd H D (.dK (putK gs (Sum.inl key) w))) (.dk (dks (J.dput m key t)) (dss (J.dput m key t))) (.dK (putK gs (Sum.inl key) w)) [] := .dk e1 (SsI.mono e2 (Ex.refl G) fun a ha => nomatch ha)
      exact ⟨G, D :: a6, bs, .cons (as := [D]) (.own upd_same hnew) (z3.tmp.mono (Ex.refl G) fun a ha => upd_ne (nD a (by simp [ha]))), z.cel.mono (Ex.refl G) fun a ha => upd_ne (nD a (by simp [ha])), z.slo, by simpa using nd, fun a ha => fr a (by simpa using ha), z.gro, z.new,
        fun a u ha => by rw [upd_ne (by intro e; subst e; rw [hG] at ha; cases ha)]; exact z.sub a u ha, fun a u ha => by rw [upd_ne (by intro e; subst e; rw [hF] at ha; cases ha)]; exact z.frm a u ha⟩
theorem dc_t {ι α β : Type} [DecidableEq α] [Datum α] [DecidableEq β] [Datum β] {xs : List α} {f : ι → α → Option (Option (Int × β) × ι)} {Sf : ι → Stt} {Sb : ι → α → Stt} {s0 sE : ι} {ys : List (Int × β)} {iter kx vx : Expr} {ifs : List Expr} {scope : Scope} {own : List (Str × Nat)} {zs : List Slot} {ok : Stt → Prop} {ws : List Nat}
    (hf : cmpM f xs s0 = some (ys, sE)) (hlen : xs.length ≤ 16777216) (hN : X.N.Nodup) (hbk : BlkOk X.N X.env.scope scope own)
    (hi : JI X B S tg iter S1 zs (xs.map Slot.val) ok) (h0 : Le B S1 (Sf s0)) (hok : ∀ s, ok (Sf s)) (hv : ∀ s, AnyAt (Sf s).sl (own.map (·.2))) (hws : ∀ i ∈ ws, i ∈ own.map (·.2))
    (hg : ∀ s x, Blk X scope fun Y => JG Y B (Sf s) tg (.val x) (Sb s x) ws)
    (hb : ∀ s x o s', x ∈ xs → f s x = some (o, s') → ∃ (p : Bool) (St : Stt), (Blk X scope fun Y => JTs Y B (Sb s x) ifs St p) ∧ (p = true → ∃ y Se, o = some y ∧ ∃ Sk, (Blk X scope fun Y => JE Y B St kx Sk (.val y.1)) ∧ (Blk X scope fun Y => JE Y B Sk vx Se (.val y.2)) ∧ Le B Se (Sf s')) ∧ (p = false → o = none ∧ Le B St (Sf s')))
    {T : List Slot} {σ : St} {tv : List V} {H : Hp} {Q : VK} (h : Sta B S T σ tv H) (q : ∀ v H', Sta B (Sf sE) (.own (.dk (dks (dOf ys)) (dss (dOf ys))) :: T) σ (v :: tv) H' → Q v H') : tDc (tiOf X tg iter) (fun v σ H Q => Blk X scope fun Y => tgOf Y tg v σ H Q) (fun σ H Q => Blk X scope fun Y => ttsOf Y ifs σ H Q) (fun σ H Q => Blk X scope fun Y => teOf Y kx σ H Q) (fun σ H Q => Blk X scope fun Y => teOf Y vx σ H Q) (own.map (·.2)) σ H Q :=
  hi _ _ _ _ _ h fun J zv H1 hl h1 wk => fun Dd hD => by
      have hS0 := h0 _ _ _ _ h1
      obtain ⟨G0, as0, bs0, z0⟩ := id hS0
      have start : Sta B (Sf s0) (.own (.dk (dks (dOf ([] : List (Int × β)))) (dss (dOf ([] : List (Int × β))))) :: (zs ++ T)) σ (.ref Dd :: (zv ++ tv)) (upd H1 Dd (.dK [])) := z0.newO hD (.dk rfl .nil)
      refine ⟨fun i m H => m = xs.length - i ∧ i ≤ xs.length ∧ ∃ s acc more, cmpM f (xs.drop i) s = some (more, sE) ∧ ys = acc ++ more ∧ acc.length ≤ i ∧ Sta B (Sf s) (.own (.dk (dks (dOf acc)) (dss (dOf acc))) :: (zs ++ T)) σ (.ref Dd :: (zv ++ tv)) H, ⟨xs.length, by simp, Nat.zero_le _, s0, [], ys, hf, rfl, Nat.zero_le _, start⟩, ?_⟩
      rintro i m H ⟨rfl, hle, s, acc, more, hm, hys, hacc, hS⟩
      have rotz : ∀ {S : Stt} {s : Slot} {u : V} {σ : St} {H : Hp}, Sta B S (s :: (zs ++ T)) σ (u :: (zv ++ tv)) H → Sta B S (zs ++ s :: T) σ (zv ++ u :: tv) H := fun {S s u σ H} h => by
        obtain ⟨G, as, bs, z⟩ := h
        obtain ⟨a1, a2, rfl, g1, z1⟩ := z.pop
        obtain ⟨a3, a4, rfl, g2, z2⟩ := z1.split hl.symm
        have pm : (a3 ++ (a1 ++ a4) ++ bs).Perm (a1 ++ (a3 ++ a4) ++ bs) := List.Perm.append_right _ (by
          rw [← List.append_assoc, ← List.append_assoc]
          exact List.Perm.append_right _ List.perm_append_comm)
        exact ⟨G, a3 ++ (a1 ++ a4), bs, g2.app (.cons g1 z2.tmp), z.cel, z.slo, pm.nodup_iff.mpr z.nod, fun a ha => z.fre a (pm.mem_iff.mp ha), z.gro, z.new, z.sub, z.frm⟩
      by_cases hlt : i < xs.length
      · rw [List.drop_eq_getElem_cons hlt] at hm
        refine bnd hm fun pr e1 e2 => bnd e2 fun qr e3 e4 => .inr ?_
        obtain ⟨o, s'⟩ := pr
        obtain ⟨more', sE'⟩ := qr
        have hx : (xs.map Slot.val)[i]? = some (Slot.val xs[i]) := by rw [List.getElem?_map, List.getElem?_eq_getElem hlt] <;> rfl
        obtain ⟨w1, w2⟩ := wk.go _ _ _ _ _ i _ (hok s) hx (rotz (hS.wip (hv s)))
        obtain ⟨w1', _⟩ := wk.go _ _ _ _ _ i _ (hok s) hx (rotz hS)
        obtain ⟨p, St, hT, hp1, hp0⟩ := hb s xs[i] o s' (List.getElem_mem hlt) e1
        refine ⟨w1', fun H => i < xs.length ∧ ∃ s acc more, cmpM f (xs.drop (i + 1)) s = some (more, sE) ∧ ys = acc ++ more ∧ acc.length ≤ i + 1 ∧ Sta B (Sf s) (.own (.dk (dks (dOf acc)) (dss (dOf acc))) :: (zs ++ T)) σ (.ref Dd :: (zv ++ tv)) H, fun H' ⟨_, g⟩ => ⟨xs.length - (i + 1), by omega, rfl, hlt, g⟩, fun v H' hy => ?_⟩
        have hS2 := w2 v H' hy
        -- the item on top, then the list that grows
        have hS3 : Sta B (Sf s) (.val xs[i] :: .own (.dk (dks (dOf acc)) (dss (dOf acc))) :: (zs ++ T)) (wipe σ (own.map (·.2))) (v :: .ref Dd :: (zv ++ tv)) H' := by
          obtain ⟨G, as, bs, z⟩ := hS2
          obtain ⟨a1, a2, rfl, g1, z1⟩ := z.pop
          obtain ⟨a3, a4, rfl, g2, z2⟩ := z1.split hl.symm
          obtain ⟨a5, a6, rfl, g3, z3⟩ := z2.pop
          have pm : (a1 ++ (a5 ++ (a3 ++ a6)) ++ bs).Perm (a1 ++ (a3 ++ (a5 ++ a6)) ++ bs) := List.Perm.append_right _ (List.Perm.append_left _ (by
            rw [← List.append_assoc, ← List.append_assoc]
            exact List.Perm.append_right _ List.perm_append_comm))
          exact ⟨G, a1 ++ (a5 ++ (a3 ++ a6)), bs, .cons g1 (.cons g3 (g2.app z3.tmp)), z.cel, z.slo, pm.nodup_iff.mpr z.nod, fun a ha => z.fre a (pm.mem_iff.mp ha), z.gro, z.new, z.sub, z.frm⟩
        intro s1 H01 C1 cl1 fp1
        refine hg s xs[i] s1 H01 C1 cl1 fp1 _ _ _ _ _ _ hS3 fun σ2 H2 chg h2 => ⟨?_, ?_⟩
        · rw [chg _ hws, wipe_wipe]
        · have back : ∀ {S : Stt} {T : List Slot} {tv : List V} {H : Hp} {s : ι}, Sta B S T σ2 tv H → Le B S (Sf s) → Sta B (Sf s) T σ tv H := fun {S T tv H s} h hle => by
            have h3 := (hle _ _ _ _ h).wip (hv s)
            rw [chg _ hws, wipe_wipe] at h3
            exact h3.unwip (hv s)
          intro s2 H02 C2 cl2 fp2
          refine hT s2 H02 C2 cl2 fp2 _ _ _ _ _ h2 fun H3 h3 => ?_
          cases p with
          | true =>
            rw [if_pos rfl]
            obtain ⟨y, Se, rfl, Sk, he, he2, hle'⟩ := hp1 rfl
            intro s3 H03 C3 cl3 fp3
            refine he s3 H03 C3 cl3 fp3 _ _ _ _ _ h3 fun w H4 h4 => ?_
            intro s4 H04 C4 cl4 fp4
            refine he2 s4 H04 C4 cl4 fp4 _ _ _ _ _ h4 fun w2 H5 h5 => ?_
            obtain ⟨gs, kd, hDv, hvl, h6⟩ := Sta.putT h5
            refine ⟨gs, _, kd, hDv, ?_, hlt, s', acc ++ [y], more', ?_, ?_, ?_, ?_⟩
            · rw [hvl]
              have := dOf_len acc
              exact Nat.lt_of_lt_of_le (Nat.lt_of_le_of_lt (Nat.le_trans this hacc) hlt) hlen
            · have e5 : (y :: more', sE') = (more, sE) := Option.some.inj e4
              cases e5
              exact e3
            · have e5 : (y :: more', sE') = (more, sE) := Option.some.inj e4
              cases e5
              rw [hys, List.append_assoc]
              rfl
            · rw [List.length_append]
              exact Nat.succ_le_succ hacc
            · rw [dOf_snoc]
              exact back h6 hle'
          | false =>
            rw [if_neg (by decide)]
            obtain ⟨rfl, hle'⟩ := hp0 rfl
            have e5 : (more', sE') = (more, sE) := Option.some.inj e4
            cases e5
            exact ⟨hlt, s', acc, _, e3, hys, Nat.le_succ_of_le hacc, back h3 hle'⟩
      · have e : i = xs.length := by omega
        subst e
        rw [List.drop_length] at hm
        have e5 : (([] : List (Int × β)), s) = (more, sE) := Option.some.inj hm
        cases e5
        have st := wk.stop _ _ _ _ _ (hok _) (rotz hS)
        rw [List.length_map] at st
        rw [List.append_nil] at hys
        subst hys
        refine .inl ⟨st, q _ _ ?_⟩
        obtain ⟨G, as, bs, z⟩ := hS
        obtain ⟨a1, a2, rfl, g1, z1⟩ := z.pop
        obtain ⟨a3, a4, rfl, g2, z2⟩ := z1.split hl.symm
        have sub : (a1 ++ a4 ++ bs).Sublist (a1 ++ (a3 ++ a4) ++ bs) := ((List.Sublist.refl a1).append (List.sublist_append_right a3 a4)).append (List.Sublist.refl bs)
        exact ⟨G, a1 ++ a4, bs, .cons g1 z2.tmp, z.cel, z.slo, sub.nodup z.nod, fun a ha => z.fre a (sub.mem ha), z.gro, z.new, z.sub, z.frm⟩
theorem je_dc {ι α β : Type} [DecidableEq α] [Datum α] [DecidableEq β] [Datum β] {xs : List α} {f : ι → α → Option (Option (Int × β) × ι)} {Sf : ι → Stt} {Sb : ι → α → Stt} {s0 sE : ι} {ys : List (Int × β)} {iter kx vx : Expr} {ifs : List Expr} {scope : Scope} {own : List (Str × Nat)} {zs : List Slot} {ok : Stt → Prop} {ws : List Nat}
    (hf : cmpM f xs s0 = some (ys, sE)) (hlen : xs.length ≤ 16777216) (hN : X.N.Nodup) (hbk : BlkOk X.N X.env.scope scope own)
    (hi : JI X B S tg iter S1 zs (xs.map Slot.val) ok) (h0 : Le B S1 (Sf s0)) (hok : ∀ s, ok (Sf s)) (hv : ∀ s, AnyAt (Sf s).sl (own.map (·.2))) (hws : ∀ i ∈ ws, i ∈ own.map (·.2))
    (hg : ∀ s x, Blk X scope fun Y => JG Y B (Sf s) tg (.val x) (Sb s x) ws)
    (hb : ∀ s x o s', x ∈ xs → f s x = some (o, s') → ∃ (p : Bool) (St : Stt), (Blk X scope fun Y => JTs Y B (Sb s x) ifs St p) ∧ (p = true → ∃ y Se, o = some y ∧ ∃ Sk, (Blk X scope fun Y => JE Y B St kx Sk (.val y.1)) ∧ (Blk X scope fun Y => JE Y B Sk vx Se (.val y.2)) ∧ Le B Se (Sf s')) ∧ (p = false → o = none ∧ Le B St (Sf s')))
    (hc : X.calm = true := by rfl) (hs : ∀ x, foldedSetIterable iter X.env x = pure x := by intro _; rfl) : JE X B S (.DictComp kx vx [⟨tg, iter, ifs, 0⟩] scope pos) (Sf sE) (.own (.dk (dks (dOf ys)) (dss (dOf ys)))) := fun T tv σ H Q h q =>
  pe1 (pe_dc (g := (fun v σ H Q => Blk X scope fun Y => tgOf Y tg v σ H Q)) (tt := (fun σ H Q => Blk X scope fun Y => ttsOf Y ifs σ H Q)) (tk := (fun σ H Q => Blk X scope fun Y => teOf Y kx σ H Q)) (tv := (fun σ H Q => Blk X scope fun Y => teOf Y vx σ H Q)) hc hN pi0 hbk (fun s H C cl fp => ⟨fun pins s' σ H' v u Q I r h => (h s H C cl fp).run pins s' u I r⟩) (fun s H C cl fp => ⟨fun pins s' σ H' Q I h => let ⟨_, hp, h'⟩ := h s H C cl fp; hp.run pins s' σ H' Q I h'⟩) (fun s H C cl fp => ⟨fun pins s' σ H' Q I h => (h s H C cl fp).run pins s' I⟩) (fun s H C cl fp => ⟨fun pins s' σ H' Q I h => (h s H C cl fp).run pins s' I⟩) hs) (dc_t hf hlen hN hbk hi h0 hok hv hws hg hb h q)
end
end J
namespace J
open PySem L2
open PySem.W (Datum)
section
end
end J
namespace J
open PySem PySem.Spec PyProof.Rows L2
open PySem.W (Datum)
section
end
end J
namespace J
open PySem L2
section
end
end J
namespace J
open PySem PySem.Spec PyProof.Rows L2
open PySem.W (Datum)
section
end
section
end
end J
namespace J
open PySem PySem.Spec PyProof.Rows L2
open PySem.W (Datum)
section
end
end J
namespace J
open PySem PySem.Spec PyProof.Rows L2
open PySem.W (Datum)
def AlC (c : Cel) : Prop := ∀ (G G' H : Hp) (o : HO) (as : List Addr), CeI G H c o as → CeI G' H c o as
inductive Alc : List (Addr × Cel) → Prop where
  | nil : Alc []
  | cons {p : Addr} {c : Cel} {cs : List (Addr × Cel)} : AlC c → Alc cs → Alc ((p, c) :: cs)
theorem Alc.cs : ∀ {cs : List (Addr × Cel)}, Alc cs → ∀ {G G' H : Hp} {bs : List Addr}, CsI G H cs bs → CsI G' H cs bs
  | _, .nil, _, _, _, _, .nil => .nil
  | _, .cons h hs, _, _, _, _, .cons hp hc h2 => .cons hp (h _ _ _ _ _ hc) (hs.cs h2)
  | _, .cons h hs, _, _, _, _, .gone h2 => .gone (hs.cs h2)
section
end
end J
namespace J
open PySem PySem.Spec PyProof.Rows L2
open PySem.W (Datum DatumOrd)
abbrev P2 := Int × Int
section
end
section
variable {X : Cx} {B : Base} {S S1 S2 S3 : Stt} {x y z : Slot} {a b e o : Expr} {es : List Expr} {pos apos cpos : Pos} {D : FE} {rest : List Stmt} {kk : Nat} {p : Addr} {β : Type} [DecidableEq β] [Datum β] {m : List (P2 × β)} {key : P2}
theorem je_globS {n : Str} {x : Str} (hm : ∃ t, X.mg n = some (.str x t)) (hg : Gl X n := by rfl) (hd : (n == ("__debug__" : Str)) = false := by decide) : JE X B S (.Name n pos) S (.val x) := fun T tv σ H Q h q => by
  obtain ⟨t, ht⟩ := hm
  exact pe1 (pe_glob hg ht (show RelV (.str x) (.str x t) from ⟨t, rfl⟩) hd) (q _ _ (h.push fun _ _ => sl_str _))
end
def maxDf (xs : List Int) (d : Int) : Int := match xs with
  | [] => d
  | t :: ts => PySem.W.maxOf t ts
def rMaxD (K : PySem.W.Frag) : List V → List V → Hp → VK → Prop := fun ws zs H Q => ∃ (ns : List Int) (a : Addr) (vs : List V) (d : V), ws = [.ref a] ∧ zs = [d] ∧ SqL K H a vs ∧ DqAll H vs (ns.map PyData.int) ∧ (ns = [] → Q d H) ∧ (ns ≠ [] → ∀ k, Q (.int (maxDf ns k)) H)
theorem cr_maxD {X : Cx} (hu : X.A.units + 64 < cLine) (hc : X.calm = true) : CallRK X (.builtin "max") ["default"] (rMaxD X.K) := by
  intro pins s σ H ws zs us ks Q I r rz h
  obtain ⟨ns, a, vs, d, rfl, rfl, hs, ha, q0, q1⟩ := h
  obtain ⟨its, rv, pl, _⟩ := I.list hs
  obtain ⟨ud, rfl, rd⟩ := vals1 rz
  rw [Vals.ref1 r]
  refine PySem.W.max_list_datum_default (α := Int) (xs := ns) (I.ok.hd hc) pl.isList (by simpa using holdAll_of I (show DqAll H vs (ns.map Datum.toD) from ha) rv) (by show _ + 1 + 0 < _; omega) (fun e h' tk hk => ?_) fun y ys i u h' tk e hi hm hk => ?_
  · exact ⟨d, H, I.kept hk, rd, q0 e⟩
  · subst e
    obtain ⟨v, h1, h2, h3⟩ := at_same I (show DqAll H vs ((y :: ys).map Datum.toD) from ha) rv (by simpa using hi) hm hk
    have hx := (dqAll_ss (G := H) (H := H) (show DqAll H vs ((y :: ys).map Datum.toD) from ha)).get i (show ((y :: ys).map Slot.val)[i]? = some (Slot.val (PySem.W.maxOf y ys)) by rw [List.getElem?_map, h3] <;> rfl)
    obtain ⟨v', e1, e2⟩ := hx
    rw [h1] at e1
    cases e1
    cases (show Dq H v (.int (PySem.W.maxOf y ys)) from sl_dq e2)
    exact ⟨_, H, I.kept hk, h2, q1 (fun z => nomatch z) 0⟩
section
variable {X : Cx} {B : Base} {S S1 S2 S3 : Stt} {x : Slot} {e f : Expr} {pos : Pos} {kk : Nat}
theorem je_maxD {ns : List Int} {d : Int} {p kp : Pos} (hr : Room kk X.A) (hm : X.mg "max" = none) (ha : JE X B S e S1 x) (hd : JE X B S1 f S2 (.val d)) (hl : Lv X.K B S2 x (ns.map Slot.val)) (hc : X.calm = true := by rfl) (hg : Gl X "max" := by rfl)
    (he : backTo pos (starEach [e] X.env) = (false, eval e X.env) :: backTo pos (starEach [] X.env) := by rfl) (hst : starEach [e] X.env = (false, eval e X.env) :: starEach [] X.env := by rfl) (hpl : (backTo pos (starEach [e] X.env)).any (·.1) = false := by rfl) : JE X B S (.Call (.Name "max" p) [e] [⟨some "default", f, kp⟩] pos) S2 (.val (maxDf ns d)) := fun T tv σ H Q h q =>
  pe1 (pe_callBK (cr_maxD hr.units hc) hg hm (by decide +kernel) pa0 (pk_cons pe0 pk_nil) (by decide) (by decide) he hpl rfl rfl rfl) (ja_cons ha ja_nil hst _ _ _ _ _ h fun vs H1 hl' h1 => by
    obtain ⟨v, rfl⟩ : ∃ v, vs = [v] := match vs, hl' with | [v], _ => ⟨v, rfl⟩
    refine hd _ _ _ _ _ h1 fun w H2 h2 => ?_
    have ew := h2.int
    subst ew
    have h3 : Sta B S2 (x :: T) σ (v :: tv) H2 := h2.drop
    obtain ⟨G, as, bs, z⟩ := id h3
    obtain ⟨a, us, rfl, hq, hss⟩ := hl z
    refine ⟨ns, a, us, .int d, rfl, rfl, hq, dqAll_mono z.sub (ss_dqAll hss), fun e => ?_, fun hne k => ?_⟩
    · subst e
      exact q _ _ (h3.drop.push fun _ _ => sl_int _)
    · have : maxDf ns k = maxDf ns d := by
        cases ns with
        | nil => exact absurd rfl hne
        | cons y ys => rfl
      rw [this]
      exact q _ _ (h3.drop.push fun _ _ => sl_int _))
end
end J
namespace J
open PySem PySem.Spec PyProof.Rows L2
open PySem.W (Datum)
section
end
section
variable {X : Cx} {B : Base} {S S1 S2 : Stt} {D : FE} {rest : List Stmt} {a b : Expr} {pos bpos : Pos}
theorem jw_andT {q : Bool} (h : JT X B S a S1 true) (h2 : JT X B S1 b S2 q) : JW X B S (.BoolOp .And [a, b] pos) S2 q := by
  intro T tv σ H Q hs k
  refine pw1 (pw_and pt0 pw0) (h _ _ _ _ _ hs fun H1 h1 => ?_)
  exact iteT (jw_and1 h2 _ _ _ _ _ h1 k)
theorem js_ifAnd {th el : List Stmt} {p : Bool} (ha : JT X B S a S1 p) (h2 : p = true → ∃ S2 q, JT X B S1 b S2 q ∧ (q = true → JS X B S2 th (D.seq X rest)) ∧ (q = false → JS X B S2 el (D.seq X rest))) (h1 : p = false → JS X B S1 el (D.seq X rest)) : JS X B S (.If (.BoolOp .And [a, b] bpos) th el pos :: rest) D := by
  cases p with
  | false =>
    have := jw_and (b := b) (rest := []) (pos := bpos) (q := false) ha (fun e => nomatch e)
    exact js_if this.t (fun e => nomatch e) fun _ => h1 rfl
  | true =>
    obtain ⟨S2, q, hb, k1, k2⟩ := h2 rfl
    exact js_if (jw_andT ha hb).t k1 k2
end
end J
namespace J
open PySem PySem.Spec PyProof.Rows L2
open PySem.W (Datum)
def rawS (d : PyData) : Slot := .say (fun G u => Dq G u d)
/-- what a slot shows -/
def Rw (x : Slot) (d : PyData) : Prop := ∀ (G H : Hp) (u : V) (as : List Addr), SlI G H x u as → Dq G u d
theorem rw_raw {d : PyData} : Rw (rawS d) d := fun _ _ _ _ h => by
  cases h with
  | say _ h => exact h
section
end
section
end
inductive RwA : List Slot → List PyData → Prop where
  | nil : RwA [] []
  | non {ss : List Slot} {ds : List PyData} (h : RwA ss ds) : RwA (.v .non :: ss) (.none :: ds)
  | val {α : Type} [DecidableEq α] [Datum α] {t : α} {ss : List Slot} {ds : List PyData} (h : RwA ss ds) : RwA (.val t :: ss) (Datum.toD t :: ds)
  | raw {d : PyData} {ss : List Slot} {ds : List PyData} (h : RwA ss ds) : RwA (rawS d :: ss) (d :: ds)
theorem RwA.dq {G G' H : Hp} : ∀ {ss : List Slot} {ds : List PyData} {vs : List V} {as : List Addr}, RwA ss ds → SsI G H ss vs as → Ex G G' → DqAll G' vs ds
  | _, _, _, _, .nil, .nil, _ => .nil
  | _, _, _, _, @RwA.val α i1 i2 t ss ds h, .cons s1 s2, e => .cons (dq_mono e (@sl_dq α i1 i2 _ _ _ _ t s1)) (h.dq s2 e)
  | _, _, _, _, .raw h, .cons s1 s2, e => .cons (dq_mono e (rw_raw _ _ _ _ s1)) (h.dq s2 e)
  | _, _, _, _, .non h, .cons s1 s2, e => by
    cases s1
    exact .cons .non (h.dq s2 e)
section
end
end J
namespace J
open PySem PySem.Spec PyProof.Rows L2
open PySem.W (Datum)
theorem RwA.app : ∀ {s1 s2 : List Slot} {d1 d2 : List PyData}, RwA s1 d1 → RwA s2 d2 → RwA (s1 ++ s2) (d1 ++ d2)
  | _, _, _, _, .nil, h => h
  | _, _, _, _, .non h1, h => .non (h1.app h)
  | _, _, _, _, @RwA.val α i1 i2 t ss ds h1, h => @RwA.val α i1 i2 t _ _ (h1.app h)
  | _, _, _, _, .raw h1, h => .raw (h1.app h)
section
end
end J
namespace J
open PySem PySem.Spec PyProof.Rows L2
open PySem.W (Datum)
section
end
section
end
end J
namespace J
universe u w
open PySem PySem.Spec PyProof.Rows L2
open PySem.W (Datum)
section
variable {X : Cx} {B : Base} {S S1 S2 S3 : Stt} {x y z : Slot} {a b e o tg : Expr} {es : List Expr} {pos apos : Pos} {D : FE} {rest : List Stmt}
theorem lc_tG {ti : TI} {ι α β : Type} {ei : α → Slot} {xs : List α} {f : ι → α → Option (Option β × ι)} {el : β → Slot} {Sf : ι → Stt} {Sb : ι → α → Stt} {s0 sE : ι} {ys : List β} {elt : Expr} {ifs : List Expr} {scope : Scope} {own : List (Str × Nat)} {zs : List Slot} {ok : Stt → Prop} {ws : List Nat}
    (hf : cmpM f xs s0 = some (ys, sE)) (hlen : xs.length ≤ 16777216) (hN : X.N.Nodup) (hbk : BlkOk X.N X.env.scope scope own)
    {T : List Slot} {σ : L2.St} {tv : List V} {H : Hp} {Q : VK} (hi : ∀ R : It → Hp → Prop, (∀ J zv H', zv.length = zs.length → Sta B S1 (zs ++ T) σ (zv ++ tv) H' → Wk X B zs zv (xs.map ei) ok J → R J H') → ti σ H R) (h0 : Le B S1 (Sf s0)) (hok : ∀ s, ok (Sf s)) (hv : ∀ s, AnyAt (Sf s).sl (own.map (·.2))) (hws : ∀ i ∈ ws, i ∈ own.map (·.2))
    (hg : ∀ s x, Blk X scope fun Y => JG Y B (Sf s) tg (ei x) (Sb s x) ws)
    (hb : ∀ s x o s', x ∈ xs → f s x = some (o, s') → ∃ (p : Bool) (St : Stt), (Blk X scope fun Y => JTs Y B (Sb s x) ifs St p) ∧ (p = true → ∃ y Se, o = some y ∧ (Blk X scope fun Y => JE Y B St elt Se (el y)) ∧ Le B Se (Sf s')) ∧ (p = false → o = none ∧ Le B St (Sf s')))
    (q : ∀ v H', Sta B (Sf sE) (.own (.lst (ys.map el)) :: T) σ (v :: tv) H' → Q v H') : tLc ti (fun v σ H Q => Blk X scope fun Y => tgOf Y tg v σ H Q) (fun σ H Q => Blk X scope fun Y => ttsOf Y ifs σ H Q) (fun σ H Q => Blk X scope fun Y => teOf Y elt σ H Q) (own.map (·.2)) σ H Q :=
  hi _ fun J zv H1 hl h1 wk => fun Dd hD => by
      have hS0 := h0 _ _ _ _ h1
      obtain ⟨G0, as0, bs0, z0⟩ := id hS0
      have start : Sta B (Sf s0) (.own (.lst ([].map el)) :: (zs ++ T)) σ (.ref Dd :: (zv ++ tv)) (upd H1 Dd (.lst [])) := z0.newO hD (.lst .nil)
      refine ⟨fun i m H => m = xs.length - i ∧ i ≤ xs.length ∧ ∃ s acc more, cmpM f (xs.drop i) s = some (more, sE) ∧ ys = acc ++ more ∧ acc.length ≤ i ∧ Sta B (Sf s) (.own (.lst (acc.map el)) :: (zs ++ T)) σ (.ref Dd :: (zv ++ tv)) H, ⟨xs.length, by simp, Nat.zero_le _, s0, [], ys, hf, rfl, Nat.zero_le _, start⟩, ?_⟩
      rintro i m H ⟨rfl, hle, s, acc, more, hm, hys, hacc, hS⟩
      have rotz : ∀ {S : Stt} {s : Slot} {u : V} {σ : L2.St} {H : Hp}, Sta B S (s :: (zs ++ T)) σ (u :: (zv ++ tv)) H → Sta B S (zs ++ s :: T) σ (zv ++ u :: tv) H := fun {S s u σ H} h => by
        obtain ⟨G, as, bs, z⟩ := h
        obtain ⟨a1, a2, rfl, g1, z1⟩ := z.pop
        obtain ⟨a3, a4, rfl, g2, z2⟩ := z1.split hl.symm
        have pm : (a3 ++ (a1 ++ a4) ++ bs).Perm (a1 ++ (a3 ++ a4) ++ bs) := List.Perm.append_right _ (by
          rw [← List.append_assoc, ← List.append_assoc]
          exact List.Perm.append_right _ List.perm_append_comm)
        exact ⟨G, a3 ++ (a1 ++ a4), bs, g2.app (.cons g1 z2.tmp), z.cel, z.slo, pm.nodup_iff.mpr z.nod, fun a ha => z.fre a (pm.mem_iff.mp ha), z.gro, z.new, z.sub, z.frm⟩
      by_cases hlt : i < xs.length
      · rw [List.drop_eq_getElem_cons hlt] at hm
        refine bnd hm fun pr e1 e2 => bnd e2 fun qr e3 e4 => .inr ?_
        obtain ⟨o, s'⟩ := pr
        obtain ⟨more', sE'⟩ := qr
        have hx : (xs.map ei)[i]? = some (ei xs[i]) := by rw [List.getElem?_map, List.getElem?_eq_getElem hlt] <;> rfl
        obtain ⟨w1, w2⟩ := wk.go _ _ _ _ _ i _ (hok s) hx (rotz (hS.wip (hv s)))
        obtain ⟨w1', _⟩ := wk.go _ _ _ _ _ i _ (hok s) hx (rotz hS)
        obtain ⟨p, St, hT, hp1, hp0⟩ := hb s xs[i] o s' (List.getElem_mem hlt) e1
        refine ⟨w1', fun H => i < xs.length ∧ ∃ s acc more, cmpM f (xs.drop (i + 1)) s = some (more, sE) ∧ ys = acc ++ more ∧ acc.length ≤ i + 1 ∧ Sta B (Sf s) (.own (.lst (acc.map el)) :: (zs ++ T)) σ (.ref Dd :: (zv ++ tv)) H, fun H' ⟨_, g⟩ => ⟨xs.length - (i + 1), by omega, rfl, hlt, g⟩, fun v H' hy => ?_⟩
        have hS2 := w2 v H' hy
        -- the item on top, then the list that grows
        have hS3 : Sta B (Sf s) (ei xs[i] :: .own (.lst (acc.map el)) :: (zs ++ T)) (wipe σ (own.map (·.2))) (v :: .ref Dd :: (zv ++ tv)) H' := by
          obtain ⟨G, as, bs, z⟩ := hS2
          obtain ⟨a1, a2, rfl, g1, z1⟩ := z.pop
          obtain ⟨a3, a4, rfl, g2, z2⟩ := z1.split hl.symm
          obtain ⟨a5, a6, rfl, g3, z3⟩ := z2.pop
          have pm : (a1 ++ (a5 ++ (a3 ++ a6)) ++ bs).Perm (a1 ++ (a3 ++ (a5 ++ a6)) ++ bs) := List.Perm.append_right _ (List.Perm.append_left _ (by
            rw [← List.append_assoc, ← List.append_assoc]
            exact List.Perm.append_right _ List.perm_append_comm))
          exact ⟨G, a1 ++ (a5 ++ (a3 ++ a6)), bs, .cons g1 (.cons g3 (g2.app z3.tmp)), z.cel, z.slo, pm.nodup_iff.mpr z.nod, fun a ha => z.fre a (pm.mem_iff.mp ha), z.gro, z.new, z.sub, z.frm⟩
        intro s1 H01 C1 cl1 fp1
        refine hg s xs[i] s1 H01 C1 cl1 fp1 _ _ _ _ _ _ hS3 fun σ2 H2 chg h2 => ⟨?_, ?_⟩
        · rw [chg _ hws, wipe_wipe]
        · have back : ∀ {S : Stt} {T : List Slot} {tv : List V} {H : Hp} {s : ι}, Sta B S T σ2 tv H → Le B S (Sf s) → Sta B (Sf s) T σ tv H := fun {S T tv H s} h hle => by
            have h3 := (hle _ _ _ _ h).wip (hv s)
            rw [chg _ hws, wipe_wipe] at h3
            exact h3.unwip (hv s)
          intro s2 H02 C2 cl2 fp2
          refine hT s2 H02 C2 cl2 fp2 _ _ _ _ _ h2 fun H3 h3 => ?_
          cases p with
          | true =>
            rw [if_pos rfl]
            obtain ⟨y, Se, rfl, he, hle'⟩ := hp1 rfl
            intro s3 H03 C3 cl3 fp3
            refine he s3 H03 C3 cl3 fp3 _ _ _ _ _ h3 fun w H4 h4 => ?_
            obtain ⟨va, hDv, hvl, h5⟩ := Sta.appT h4
            refine ⟨va, hDv, ?_, hlt, s', acc ++ [y], more', ?_, ?_, ?_, ?_⟩
            · rw [hvl, List.length_map]
              exact Nat.lt_of_lt_of_le (Nat.lt_of_le_of_lt hacc hlt) hlen
            · have e5 : (y :: more', sE') = (more, sE) := Option.some.inj e4
              cases e5
              exact e3
            · have e5 : (y :: more', sE') = (more, sE) := Option.some.inj e4
              cases e5
              rw [hys, List.append_assoc]
              rfl
            · rw [List.length_append]
              exact Nat.succ_le_succ hacc
            · rw [List.map_append]
              exact back h5 hle'
          | false =>
            rw [if_neg (by decide)]
            obtain ⟨rfl, hle'⟩ := hp0 rfl
            have e5 : (more', sE') = (more, sE) := Option.some.inj e4
            cases e5
            exact ⟨hlt, s', acc, _, e3, hys, Nat.le_succ_of_le hacc, back h3 hle'⟩
      · have e : i = xs.length := by omega
        subst e
        rw [List.drop_length] at hm
        have e5 : (([] : List β), s) = (more, sE) := Option.some.inj hm
        cases e5
        have st := wk.stop _ _ _ _ _ (hok _) (rotz hS)
        rw [List.length_map] at st
        rw [List.append_nil] at hys
        subst hys
        refine .inl ⟨st, q _ _ ?_⟩
        obtain ⟨G, as, bs, z⟩ := hS
        obtain ⟨a1, a2, rfl, g1, z1⟩ := z.pop
        obtain ⟨a3, a4, rfl, g2, z2⟩ := z1.split hl.symm
        have sub : (a1 ++ a4 ++ bs).Sublist (a1 ++ (a3 ++ a4) ++ bs) := ((List.Sublist.refl a1).append (List.sublist_append_right a3 a4)).append (List.Sublist.refl bs)
        exact ⟨G, a1 ++ a4, bs, .cons g1 z2.tmp, z.cel, z.slo, sub.nodup z.nod, fun a ha => z.fre a (sub.mem ha), z.gro, z.new, z.sub, z.frm⟩
theorem lc_tV {ι α β : Type} {ei : α → Slot} {xs : List α} {f : ι → α → Option (Option β × ι)} {el : β → Slot} {Sf : ι → Stt} {Sb : ι → α → Stt} {s0 sE : ι} {ys : List β} {iter elt : Expr} {ifs : List Expr} {scope : Scope} {own : List (Str × Nat)} {zs : List Slot} {ok : Stt → Prop} {ws : List Nat}
    (hf : cmpM f xs s0 = some (ys, sE)) (hlen : xs.length ≤ 16777216) (hN : X.N.Nodup) (hbk : BlkOk X.N X.env.scope scope own)
    (hi : JI X B S tg iter S1 zs (xs.map ei) ok) (h0 : Le B S1 (Sf s0)) (hok : ∀ s, ok (Sf s)) (hv : ∀ s, AnyAt (Sf s).sl (own.map (·.2))) (hws : ∀ i ∈ ws, i ∈ own.map (·.2))
    (hg : ∀ s x, Blk X scope fun Y => JG Y B (Sf s) tg (ei x) (Sb s x) ws)
    (hb : ∀ s x o s', x ∈ xs → f s x = some (o, s') → ∃ (p : Bool) (St : Stt), (Blk X scope fun Y => JTs Y B (Sb s x) ifs St p) ∧ (p = true → ∃ y Se, o = some y ∧ (Blk X scope fun Y => JE Y B St elt Se (el y)) ∧ Le B Se (Sf s')) ∧ (p = false → o = none ∧ Le B St (Sf s')))
    {T : List Slot} {σ : L2.St} {tv : List V} {H : Hp} {Q : VK} (h : Sta B S T σ tv H) (q : ∀ v H', Sta B (Sf sE) (.own (.lst (ys.map el)) :: T) σ (v :: tv) H' → Q v H') : tLc (tiOf X tg iter) (fun v σ H Q => Blk X scope fun Y => tgOf Y tg v σ H Q) (fun σ H Q => Blk X scope fun Y => ttsOf Y ifs σ H Q) (fun σ H Q => Blk X scope fun Y => teOf Y elt σ H Q) (own.map (·.2)) σ H Q :=
  lc_tG hf hlen hN hbk (fun R k => hi _ _ _ _ _ h k) h0 hok hv hws hg hb q
theorem je_lcV {ι α β : Type} {ei : α → Slot} {xs : List α} {f : ι → α → Option (Option β × ι)} {el : β → Slot} {Sf : ι → Stt} {Sb : ι → α → Stt} {s0 sE : ι} {ys : List β} {iter elt : Expr} {ifs : List Expr} {scope : Scope} {own : List (Str × Nat)} {zs : List Slot} {ok : Stt → Prop} {ws : List Nat}
    (hf : cmpM f xs s0 = some (ys, sE)) (hlen : xs.length ≤ 16777216) (hN : X.N.Nodup) (hbk : BlkOk X.N X.env.scope scope own)
    (hi : JI X B S tg iter S1 zs (xs.map ei) ok) (h0 : Le B S1 (Sf s0)) (hok : ∀ s, ok (Sf s)) (hv : ∀ s, AnyAt (Sf s).sl (own.map (·.2))) (hws : ∀ i ∈ ws, i ∈ own.map (·.2))
    (hg : ∀ s x, Blk X scope fun Y => JG Y B (Sf s) tg (ei x) (Sb s x) ws)
    (hb : ∀ s x o s', x ∈ xs → f s x = some (o, s') → ∃ (p : Bool) (St : Stt), (Blk X scope fun Y => JTs Y B (Sb s x) ifs St p) ∧ (p = true → ∃ y Se, o = some y ∧ (Blk X scope fun Y => JE Y B St elt Se (el y)) ∧ Le B Se (Sf s')) ∧ (p = false → o = none ∧ Le B St (Sf s')))
    (hc : X.calm = true := by rfl) (hs : ∀ x, foldedSetIterable iter X.env x = pure x := by intro _; rfl) : JE X B S (.ListComp elt [⟨tg, iter, ifs, 0⟩] scope pos) (Sf sE) (.own (.lst (ys.map el))) := fun T tv σ H Q h q =>
  pe1 (pe_lc (g := (fun v σ H Q => Blk X scope fun Y => tgOf Y tg v σ H Q)) (tt := (fun σ H Q => Blk X scope fun Y => ttsOf Y ifs σ H Q)) (te := (fun σ H Q => Blk X scope fun Y => teOf Y elt σ H Q)) hc hN pi0 hbk (fun s H C cl fp => ⟨fun pins s' σ H' v u Q I r h => (h s H C cl fp).run pins s' u I r⟩) (fun s H C cl fp => ⟨fun pins s' σ H' Q I h => let ⟨_, hp, h'⟩ := h s H C cl fp; hp.run pins s' σ H' Q I h'⟩) (fun s H C cl fp => ⟨fun pins s' σ H' Q I h => (h s H C cl fp).run pins s' I⟩) hs) (lc_tV hf hlen hN hbk hi h0 hok hv hws hg hb h q)
theorem js_setLcV (j : Nat) {n : Str} {pos2 : Pos} {z : Slot} {ι α β : Type} {ei : α → Slot} {xs : List α} {f : ι → α → Option (Option β × ι)} {el : β → Slot} {Sf : ι → Stt} {Sb : ι → α → Stt} {s0 sE : ι} {ys : List β} {iter elt : Expr} {ifs : List Expr} {scope : Scope} {own : List (Str × Nat)} {zs : List Slot} {ok : Stt → Prop} {ws : List Nat}
    (hf : cmpM f xs s0 = some (ys, sE)) (hlen : xs.length ≤ 16777216) (hN : X.N.Nodup) (hbk : BlkOk X.N X.env.scope scope own)
    (hi : JI X B S tg iter S1 zs (xs.map ei) ok) (h0 : Le B S1 (Sf s0)) (hok : ∀ s, ok (Sf s)) (hv : ∀ s, AnyAt (Sf s).sl (own.map (·.2))) (hws : ∀ i ∈ ws, i ∈ own.map (·.2))
    (hg : ∀ s x, Blk X scope fun Y => JG Y B (Sf s) tg (ei x) (Sb s x) ws)
    (hb : ∀ s x o s', x ∈ xs → f s x = some (o, s') → ∃ (p : Bool) (St : Stt), (Blk X scope fun Y => JTs Y B (Sb s x) ifs St p) ∧ (p = true → ∃ y Se, o = some y ∧ (Blk X scope fun Y => JE Y B St elt Se (el y)) ∧ Le B Se (Sf s')) ∧ (p = false → o = none ∧ Le B St (Sf s')))
    (hz : ∀ {T : List Slot} {σ : L2.St} {tv : List V} {v : V} {H : Hp}, Sta B (Sf sE) (.own (.lst (ys.map el)) :: T) σ (v :: tv) H → Sta B (Sf sE) (z :: T) σ (v :: tv) H) (k : JS X B ⟨(Sf sE).sl.set j z, (Sf sE).cs⟩ rest D) (hp : z.plain = true := by rfl) (hc : X.calm = true := by rfl) (hs : ∀ x, foldedSetIterable iter X.env x = pure x := by intro _; rfl) (hj : X.N[j]? = some n := by rfl) (hyl : X.env.scope.names.lookup n = some .local := by rfl) (hsw : swapsWith (.ListComp elt [⟨tg, iter, ifs, 0⟩] scope pos) (some (.Name n pos2)) apos.line X.env = pure true := by rfl) : JS X B S (.Assign [.Name n pos2] (.ListComp elt [⟨tg, iter, ifs, 0⟩] scope pos) apos :: rest) D :=
  js_step (ps_setLc (g := (fun v σ H Q => Blk X scope fun Y => tgOf Y tg v σ H Q)) (tt := (fun σ H Q => Blk X scope fun Y => ttsOf Y ifs σ H Q)) (te := (fun σ H Q => Blk X scope fun Y => teOf Y elt σ H Q)) hc hN hj hyl hsw pi0 hbk (fun s H C cl fp => ⟨fun pins s' σ H' v u Q I r h => (h s H C cl fp).run pins s' u I r⟩) (fun s H C cl fp => ⟨fun pins s' σ H' Q I h => let ⟨_, hp, h'⟩ := h s H C cl fp; hp.run pins s' σ H' Q I h'⟩) (fun s H C cl fp => ⟨fun pins s' σ H' Q I h => (h s H C cl fp).run pins s' I⟩) hs) fun T tv σ H h => lc_tV hf hlen hN hbk hi h0 hok hv hws hg hb h fun v H1 h1 => k _ _ _ _ ((hz h1).set hp j)
theorem js_forEV {π ι α : Type} {ei : α → Slot} {xs : List α} {f : ι → α → Option ι} {Sf : π → ι → Stt} {Sb : π → ι → α → Stt} {s0 sE : ι} {tg iter : Expr} {body : List Stmt} {zs : List Slot} {ok : Stt → Prop} (hf : forM f xs s0 = some sE)
    (hi : JI X B S tg iter S1 zs (xs.map ei) ok) (h0 : ∀ T tv σ H, Sta B S1 T σ tv H → ∃ q, Sta B (Sf q s0) T σ tv H) (hok : ∀ q s, ok (Sf q s))
    {ws : List Nat} (hg : ∀ q s x, JG X B (Sf q s) tg (ei x) (Sb q s x) ws) (hb : ∀ q s x s', x ∈ xs → f s x = some s' → JS X B (Sb q s x) body { nx := toE B fun q => Sf q s', rt := D.rt, ct := toE B fun q => Sf q s' })
    (k : ∀ q, JS X B (Sf q sE) rest D) (hc : X.calm = true := by rfl) (hp : PassesOwn (model X.prog X.w) X.A X.env X.xe := by exact PassesOwn.never) (hs : ∀ x, foldedSetIterable iter X.env x = pure x := by intro _; rfl) : JS X B S (.For tg iter body [] pos :: rest) D := by
  refine js_step (ps_for hp hc pi0 pg0 pb0 hs) fun T tv σ H h => hi _ _ _ _ _ h fun J zv H1 hl h1 wk => ?_
  refine ⟨fun i m σ H => m = xs.length - i ∧ i ≤ xs.length ∧ ∃ s, forM f (xs.drop i) s = some sE ∧ ∃ q, Sta B (Sf q s) (zs ++ T) σ (zv ++ tv) H, ⟨xs.length, by simp, Nat.zero_le _, s0, hf, h0 _ _ _ _ h1⟩, ?_⟩
  rintro i m σ H ⟨rfl, hle, s, hs', q, hS⟩
  by_cases hlt : i < xs.length
  · rw [List.drop_eq_getElem_cons hlt] at hs'
    refine bnd hs' fun s2 e1 e2 => .inr ?_
    have hx : (xs.map ei)[i]? = some (ei xs[i]) := by rw [List.getElem?_map, List.getElem?_eq_getElem hlt]; rfl
    obtain ⟨w1, w2⟩ := wk.go _ _ _ _ _ i _ (hok q s) hx hS
    refine ⟨w1, toE B (fun q => Sf q s2) (zs ++ T) (zv ++ tv), fun σ' H' g => ⟨xs.length - (i + 1), by omega, rfl, hlt, s2, e2, g⟩, fun v H' y => ?_⟩
    exact hg q s xs[i] _ _ _ _ _ _ (w2 v H' y) fun σ3 H3 _ g3 => ⟨fun pins st I => thn ((hb q s xs[i] s2 (List.getElem_mem hlt) e1 _ _ _ _ g3).run pins st I) fun fl s2 q => by
        cases fl with
        | next => exact q
        | cont => exact q
        | brk => obtain ⟨_, _, _, z⟩ := q; exact z.elim
        | ret u => exact q⟩
  · have e : i = xs.length := by omega
    subst e
    rw [List.drop_length] at hs'
    cases hs'
    have st := wk.stop _ _ _ _ _ (hok _ _) hS
    rw [List.length_map] at st
    exact .inl ⟨st, k q _ _ _ _ (Sta.drops hl hS)⟩
end
section
variable {X : Cx} {B : Base} {S S1 S2 S3 : Stt} {x y z : Slot} {a b e o tg : Expr} {es : List Expr} {pos apos : Pos} {D : FE} {rest : List Stmt} {T : List Slot} {σ : L2.St} {tv : List V} {H : Hp} {p : Addr} {cs : List Cel}
/-- a cell that is held as a temporary thing is laid back -/
theorem Sta.back (k : Nat) {c : Cel} {q0 : Addr} {c0 : Cel} (hk : S.cs[k]? = some (q0, c0)) (hg : c0 = .gone) (h : Sta B S (.own c :: T) σ (.ref p :: tv) H) : Sta B ⟨S.sl, S.cs.set k (p, c)⟩ T σ tv H := by
  subst hg
  obtain ⟨G, as0, bs, z⟩ := h
  obtain ⟨a1, a2, rfl, g, z'⟩ := z.pop
  cases g with
  | @own _ _ o m hp hc =>
    obtain ⟨b, cb, pb⟩ := CsI.puts (Pt.cons k hk .nil) z'.cel (CsI.cons hp hc .nil)
    have pm : (a2 ++ b).Perm ((p :: m) ++ a2 ++ bs) := by
      have e1 : (a2 ++ b).Perm (a2 ++ ((p :: (m ++ [])) ++ bs)) := List.Perm.append_left _ pb
      rw [List.append_nil] at e1
      refine e1.trans ?_
      rw [← List.append_assoc]
      exact List.Perm.append_right _ List.perm_append_comm
    exact ⟨G, a2, b, z'.tmp, cb, z.slo, pm.nodup_iff.mpr z.nod, fun a ha => z.fre a (pm.mem_iff.mp ha), z.gro, z.new, z.sub, z.frm⟩
theorem Sta.lift (k : Nat) {c : Cel} (hk : S.cs[k]? = some (p, c)) (hg : c ≠ .gone) (h : Sta B S T σ tv H) : Sta B ⟨S.sl, S.cs.set k (p, .gone)⟩ (.own c :: T) σ (.ref p :: tv) H := (h.push (x := .v (.ref p)) (v := .ref p) fun _ _ => .v).own k hk hg
theorem Sta.lower (k : Nat) {c0 c : Cel} (hk : S.cs[k]? = some (p, c0)) (h : Sta B ⟨S.sl, S.cs.set k (p, .gone)⟩ (.own c :: T) σ (.ref p :: tv) H) : Sta B ⟨S.sl, S.cs.set k (p, c)⟩ T σ tv H := by
  obtain ⟨hlt, _⟩ := List.getElem?_eq_some_iff.mp hk
  have := h.back k (S := ⟨S.sl, S.cs.set k (p, .gone)⟩) (q0 := p) (c0 := .gone) (by show (S.cs.set k (p, Cel.gone))[k]? = _; rw [List.getElem?_set, if_pos rfl, if_pos hlt]) rfl
  rw [show ((⟨S.sl, S.cs.set k (p, .gone)⟩ : Stt).cs.set k (p, c)) = S.cs.set k (p, c) from List.set_set ..] at this
  exact this
theorem ji_listV {its : List Slot} {ok : Stt → Prop} (ha : JE X B S e S1 x) (hl : Lv X.K B S1 x its) (hok : ∀ S, ok S → Lv X.K B S x its) : JI X B S tg e S1 [x] its ok := fun T tv σ H R hs q =>
  pi1 (pi_list pe0) (ha _ _ _ _ _ hs fun v H1 h1 => by
    obtain ⟨G, as, bs, z⟩ := id h1
    obtain ⟨p, vs, rfl, hr, hss⟩ := hl z
    refine ⟨p, rfl, ⟨vs, hr⟩, q (Itl X.K p) [.ref p] H1 rfl h1 ⟨fun S T σ tv H i s hS hi h => ?_, fun S T σ tv H hS h => ?_⟩⟩
    · obtain ⟨G, as, bs, z⟩ := id h
      obtain ⟨p', vs', e, hr', hss'⟩ := hok S hS z
      cases e
      obtain ⟨u, hu, su⟩ := hss'.get i hi
      refine ⟨⟨vs', u, hr', hu⟩, fun v H' hy => ?_⟩
      obtain ⟨rfl, hy⟩ := hy
      have e := hy vs' (hr')
      rw [hu] at e
      cases e
      exact z.push su
    · obtain ⟨G, as, bs, z⟩ := id h
      obtain ⟨p', vs', e, hr', hss'⟩ := hok S hS z
      cases e
      exact ⟨vs', hr', Nat.le_of_eq hss'.len.symm⟩)
end
end J
namespace J
open PySem PySem.Spec PyProof.Rows L2
open PySem.W (Datum)
section
end
end J
namespace J
universe u w
open PySem PySem.Spec PyProof.Rows L2
open PySem.W (Datum)
section
variable {X : Cx} {B : Base} {S S1 S2 S3 : Stt} {x y z : Slot} {a b e o tg : Expr} {es : List Expr} {pos apos : Pos} {D : FE} {rest : List Stmt} {T : List Slot} {σ : L2.St} {tv : List V} {H : Hp} {p q : Addr} {c d : Cel} {v : V}
theorem get_set_ne {α : Type _} {l : List α} {i j : Nat} {x y : α} (h : i ≠ j) (e : l[j]? = some y) : (l.set i x)[j]? = some y := by rw [List.getElem?_set_ne h]; exact e
theorem Sta.foldAt (k k2 j : Nat) (hk : S.cs[k]? = some (p, c)) (hj : c.nth j = some (.v (.ref q))) (hk2 : S.cs[k2]? = some (q, d)) (hne : k ≠ k2) (hgc : c ≠ .gone) (hg : d ≠ .gone) (h : Sta B S T σ tv H) : Sta B ⟨S.sl, (S.cs.set k (p, c.sub j (.own d))).set k2 (q, .gone)⟩ T σ tv H := by
  have h1 := h.lift k hk hgc
  have h2 := h1.fold k2 j hj (S := ⟨S.sl, S.cs.set k (p, .gone)⟩) (get_set_ne hne hk2) hg
  obtain ⟨hlt, _⟩ := List.getElem?_eq_some_iff.mp hk
  have h3 := h2.back k (S := ⟨S.sl, (S.cs.set k (p, .gone)).set k2 (q, .gone)⟩) (q0 := p) (c0 := .gone) (get_set_ne (Ne.symm hne) (by rw [List.getElem?_set, if_pos rfl, if_pos hlt])) rfl
  have e : ((S.cs.set k (p, Cel.gone)).set k2 (q, Cel.gone)).set k (p, c.sub j (.own d)) = (S.cs.set k (p, c.sub j (.own d))).set k2 (q, .gone) := by
    rw [List.set_comm _ _ (Ne.symm hne), List.set_set]
  have h4 : Sta B ⟨S.sl, ((S.cs.set k (p, Cel.gone)).set k2 (q, Cel.gone)).set k (p, c.sub j (.own d))⟩ T σ tv H := h3
  rw [e] at h4
  exact h4
theorem js_fold (k k2 j n : Nat) (hk : S.cs[k]? = some (p, c)) (hj : c.nth j = some (.v (.ref q))) (hk2 : S.cs[k2]? = some (q, d)) (hne : k ≠ k2) (hg : d ≠ .gone) (kx : JS X B ⟨S.sl, ((S.cs.set k (p, c.sub j (.own d))).set k2 (q, .gone)).take n⟩ rest D) (hgc : c ≠ .gone := by nofun) : JS X B S rest D := fun T tv σ H hs =>
  kx _ _ _ _ ((hs.foldAt k k2 j hk hj hk2 hne hgc hg).take n)
theorem le_fold (k k2 j : Nat) (hk : S.cs[k]? = some (p, c)) (hj : c.nth j = some (.v (.ref q))) (hk2 : S.cs[k2]? = some (q, d)) (hne : k ≠ k2) (hg : d ≠ .gone) (hgc : c ≠ .gone := by nofun) : Le B S ⟨S.sl, (S.cs.set k (p, c.sub j (.own d))).set k2 (q, .gone)⟩ := fun T tv σ H hs => hs.foldAt k k2 j hk hj hk2 hne hgc hg
theorem Le.trans {S S1 S2 : Stt} (h1 : Le B S S1) (h2 : Le B S1 S2) : Le B S S2 := fun _ _ _ _ h => h2 _ _ _ _ (h1 _ _ _ _ h)
theorem je_le (h : JE X B S e S1 x) (l : Le B S1 S2) : JE X B S e S2 x := fun T tv σ H Q hs q => h _ _ _ _ _ hs fun v H1 h1 => q v H1 (l _ _ _ _ h1)
theorem je_pre (l : Le B S S1) (h : JE X B S1 e S2 x) : JE X B S e S2 x := fun T tv σ H Q hs q => h _ _ _ _ _ (l _ _ _ _ hs) q
theorem jt_leS {p : Bool} (h : JT X B S e S1 p) (l : Le B S1 S2) : JT X B S e S2 p := fun T tv σ H Q hs q => h _ _ _ _ _ hs fun H1 h1 => q H1 (l _ _ _ _ h1)
theorem js_le (l : Le B S S1) (h : JS X B S1 rest D) : JS X B S rest D := fun T tv σ H hs => h _ _ _ _ (l _ _ _ _ hs)
theorem le_take (n : Nat) : Le B S ⟨S.sl, S.cs.take n⟩ := fun T tv σ H h => h.take n
theorem js_take (n : Nat) (h : JS X B ⟨S.sl, S.cs.take n⟩ rest D) : JS X B S rest D := js_le (le_take n) h
theorem Sta.write2 (h : Sta B S (.own c :: y :: T) σ (.ref p :: v :: tv) H) : ∃ G o m a1, H p = some o ∧ CeI G H c o m ∧ SlI G H y v a1 ∧ (∀ a ∈ m, a ≠ p) ∧ (∀ a ∈ a1, a ≠ p) ∧ ∀ {c' : Cel} {o' : HO} {m' d : List Addr}, CeI G (upd H p o') c' o' m' → (m' ++ d).Perm (m ++ a1) → Sta B S (.own c' :: T) σ (.ref p :: tv) (upd H p o') := by
  obtain ⟨G, as, bs, z⟩ := h
  obtain ⟨a0, a2, rfl, g0, z1⟩ := z.pop
  obtain ⟨a1, a3, rfl, g1, z2⟩ := z1.pop
  cases g0 with
  | @own _ _ o m hp hc =>
    have nd : (p :: (m ++ a1 ++ a3 ++ bs)).Nodup := by simpa only [List.append_assoc, List.cons_append] using z.nod
    have nd1 := List.nodup_cons.mp nd
    have ne : ∀ a ∈ m ++ a1 ++ a3 ++ bs, a ≠ p := fun a ha e => nd1.1 (e ▸ ha)
    have fr : ∀ a ∈ p :: (m ++ a1 ++ a3 ++ bs), G a = none ∧ B.F a = none := fun a ha => z.fre a (by simpa only [List.append_assoc, List.cons_append] using ha)
    refine ⟨G, o, m, a1, hp, hc, g1, fun a ha => ne a (by simp [ha]), fun a ha => ne a (by simp [ha]), fun {c' o' m' d} hc' pm => ?_⟩
    have sb : ((p :: m') ++ a3 ++ bs).Sublist ((p :: (m' ++ d)) ++ a3 ++ bs) := by
      refine List.Sublist.append (List.Sublist.append ?_ (List.Sublist.refl _)) (List.Sublist.refl _)
      exact (List.sublist_append_left _ _).cons_cons p
    have pm2 : ((p :: (m' ++ d)) ++ a3 ++ bs).Perm (p :: (m ++ a1 ++ a3 ++ bs)) := by
      rw [List.cons_append, List.cons_append]
      refine List.Perm.cons p ?_
      exact List.Perm.append_right _ (List.Perm.append_right _ pm)
    have hp0 := fr p List.mem_cons_self
    exact ⟨G, (p :: m') ++ a3, bs, .cons (.own upd_same hc') (z2.tmp.mono (Ex.refl G) fun a ha => upd_ne (ne a (by simp [ha]))), z2.cel.mono (Ex.refl G) fun a ha => upd_ne (ne a (by simp [ha])), z2.slo, sb.nodup (pm2.nodup_iff.mpr nd),
      fun a ha => fr a (pm2.mem_iff.mp (sb.mem ha)), z2.gro, z2.new, fun a u ha => by rw [upd_ne (by intro e; subst e; rw [hp0.1] at ha; cases ha)]; exact z2.sub a u ha, fun a u ha => by rw [upd_ne (by intro e; subst e; rw [hp0.2] at ha; cases ha)]; exact z2.frm a u ha⟩
theorem SsI.setAt {G H : Hp} : ∀ {ss : List Slot} {vs : List V} {as : List Addr} (j : Nat) {s : Slot}, SsI G H ss vs as → ss[j]? = some s → ∃ a1 m a2, as = a1 ++ m ++ a2 ∧ ∀ {y : Slot} {v : V} {m' : List Addr}, SlI G H y v m' → SsI G H (ss.set j y) (vs.set j v) (a1 ++ m' ++ a2)
  | [], _, _, _, _, _, e => by simp at e
  | s0 :: ss, _, _, 0, s, h, e => by
    cases h with
    | @cons _ u m _ vs a2 h1 h2 => exact ⟨[], m, a2, rfl, fun h' => .cons h' h2⟩
  | s0 :: ss, _, _, j + 1, s, h, e => by
    cases h with
    | @cons _ u0 m0 _ vs a0 h1 h2 =>
      obtain ⟨a1, m, a2, rfl, reb⟩ := SsI.setAt (ss := ss) j h2 (show ss[j]? = some s from e)
      refine ⟨m0 ++ a1, m, a2, by simp only [List.append_assoc], fun {y v m'} h' => ?_⟩
      have := SsI.cons h1 (reb h')
      simpa only [List.append_assoc, List.set_cons_succ] using this
theorem perm_put {a1 m a2 ay : List Addr} : ((a1 ++ ay ++ a2) ++ m).Perm ((a1 ++ m ++ a2) ++ ay) := List.perm_iff_count.mpr fun x => by simp only [List.count_append]; omega
variable {ks : List Key} {ss : List Slot} {key : Str} {kk : Nat}
theorem Sta.dputA (h : Sta B S (y :: T) σ (v :: tv) H) (k j : Nat) (hk : S.cs[k]? = some (p, .dk ks ss)) (hj : ks.findIdx? (fun x => decide (x = Sum.inr key)) = some j) (hnd : ks.Nodup) (hn : ks.length ≤ 1000) : ∃ gs : List (Key × V), H p = some (.dK gs) ∧ gs.length < sizeLine ∧ Sta B ⟨S.sl, S.cs.set k (p, .dk ks (ss.set j y))⟩ T σ tv (upd H p (.dK (putK gs (Sum.inr key) v))) := by
  have h1 := h.lift k hk (by nofun)
  obtain ⟨G, o, m, a1, hp, hc, hy, n1, n2, w⟩ := h1.write2
  cases hc with
  | @dk _ _ gs _ hks hss =>
    subst hks
    obtain ⟨e1, e2⟩ := putK_at (v := v) hj hnd
    have hlen : gs.length < sizeLine := by
      have : gs.length ≤ 1000 := by simpa using hn
      exact small1000 this
    refine ⟨gs, hp, hlen, ?_⟩
    have hss' : SsI G (upd H p (.dK (putK gs (Sum.inr key) v))) ss (gs.map (·.2)) m := hss.mono (Ex.refl G) fun a ha => upd_ne (n1 a ha)
    have hy' : SlI G (upd H p (.dK (putK gs (Sum.inr key) v))) y v a1 := hy.mono (Ex.refl G) fun a ha => upd_ne (n2 a ha)
    have hjl : j < ss.length := by
      have := (List.findIdx?_eq_some_iff_getElem.mp hj).1
      have l := hss.len
      simp only [List.length_map] at this l
      omega
    obtain ⟨b1, mo, b2, rfl, reb⟩ := hss'.setAt j (List.getElem?_eq_getElem hjl)
    have hnew : CeI G (upd H p (.dK (putK gs (Sum.inr key) v))) (.dk (gs.map (·.1)) (ss.set j y)) (.dK (putK gs (Sum.inr key) v)) (b1 ++ a1 ++ b2) := .dk e1.symm (by
      rw [e2]
      exact reb hy')
    exact (w hnew perm_put).lower k hk
/-- d["key"] += e, other parts of any kind -/
theorem js_daugA (k j : Nat) {i : Expr} {tpos : Pos} {op : Operator} {f : Int → Int → Int} {m n : Int} {ss' : List Slot} (hop : InOp X op fun x y H Q => ∃ i j, x = .int i ∧ y = .int j ∧ Q (.int (f i j)) H) (hr : Room kk X.A) (ho : JE X B S o S1 (.v (.ref p))) (hi : JE X B S1 i S2 (.val key)) (hk0 : S2.cs[k]? = some (p, .dk ks ss')) (hj : ks.findIdx? (fun x => decide (x = Sum.inr key)) = some j) (hm : ss'[j]? = some (.val m)) (he : JE X B S2 e S3 (.val n)) (hk : S3.cs[k]? = some (p, .dk ks ss)) (kx : JS X B ⟨S3.sl, S3.cs.set k (p, .dk ks (ss.set j (.val (f m n))))⟩ rest D) (hnd : ks.Nodup := by decide +kernel) (hn : ks.length ≤ 1000 := by decide)
    (ha : ∀ ov iv new, augStore i ov iv new = (do holding [new, ov, iv] (setItem ov iv new); release [new, ov, iv] []; pure .next) := by intros; rfl) : JS X B S (.AugAssign (.Subscript o i tpos) op e pos :: rest) D :=
  js_step (ps_daug (hu_of hr) pe0 pe0 pe0 hop ha) fun T tv σ H h => ho _ _ _ _ _ h fun w1 H1 h1 => by
    have e := h1.exact
    subst e
    refine hi _ _ _ _ _ h1 fun w2 H2 h2 => ?_
    have e := h2.str
    subst e
    have h2' := h2
    obtain ⟨G, as, bs, z⟩ := h2'
    obtain ⟨oo, mm, hpp, hc, _, _, _, _⟩ := z.cellW hk0 (by intro e; cases e)
    cases hc with
    | @dk _ _ gs _ hks hss =>
      obtain ⟨a1, u, m1, a2, _, hu, su, _⟩ := hss.part j hm
      obtain rfl := su.nil rfl
      have hv := valV_at hks hj hu
      have h3 : Sta B S2 (.val m :: .val key :: .v (.ref p) :: T) σ (u :: .str key :: .ref p :: tv) H2 := z.push su
      have e := h3.int
      subst e
      refine ⟨p, .int m, rfl, ?_, he _ _ _ _ _ h3 fun w3 H3 h4 => ?_⟩
      · have g := DGet.k (k := Sum.inr key) hpp
        rw [hv] at g
        exact g
      · have e := h4.int
        subst e
        refine ⟨m, n, rfl, rfl, ?_⟩
        have h5 : Sta B S3 (.val (f m n) :: T) σ (.int (f m n) :: tv) H3 := h4.drop.drop.drop.drop.push fun _ _ => sl_int _
        obtain ⟨gs, hpp, hl, h6⟩ := h5.dputA k j hk hj hnd hn
        exact ⟨_, DPut.k (k := Sum.inr key) hpp hl, kx _ _ _ _ h6⟩
variable {fs : List (Str × Slot)} {f m : Str} {C : Addr}
theorem put_sndA {G H : Hp} (f : Str) {y : Slot} {v : V} {my : List Addr} (hy : SlI G H y v my) : ∀ {fs : List (Str × Slot)} {gs : List (Str × V)} {as : List Addr}, fs.map (·.1) = gs.map (·.1) → SsI G H (fs.map (·.2)) (gs.map (·.2)) as → ∃ as' d, (as' ++ d).Perm (as ++ my) ∧ SsI G H ((putS f y fs).map (·.2)) ((putF f v gs).map (·.2)) as'
  | [], [], as, _, h => by
    cases h
    exact ⟨my ++ [], [], by simp, .cons hy .nil⟩
  | [], _ :: _, _, h, _ => by simp at h
  | _ :: _, [], _, h, _ => by simp at h
  | (g, x) :: fs, (g', w) :: gs, as, h, hs => by
    have h1 : g = g' := (List.cons.inj h).1
    subst h1
    cases hs with
    | @cons _ _ a1 _ _ a2 s1 hs =>
      unfold putS putF
      by_cases e : g = f
      · rw [if_pos e, if_pos e]
        exact ⟨my ++ a2, a1, List.perm_iff_count.mpr fun x => by simp only [List.count_append]; omega, .cons hy hs⟩
      · rw [if_neg e, if_neg e]
        obtain ⟨as', d, i1, i2⟩ := put_sndA f hy (List.cons.inj h).2 hs
        exact ⟨a1 ++ as', d, by rw [List.append_assoc, List.append_assoc]; exact List.Perm.append_left a1 i1, .cons s1 i2⟩
/-- o.f = e, where e may be a new thing of our own -/
theorem js_fputA (k : Nat) {pos' : Pos} (cl : Cls X.K C) (na : NoAttr X.K C f) (he : JE X B S e S1 y) (ho : JE X B S1 o S2 (.v (.ref p))) (hk : S2.cs[k]? = some (p, .ins C fs)) (kx : JS X B ⟨S2.sl, S2.cs.set k (p, .ins C (putS f y fs))⟩ rest D) (hn : fs.length < 1000 := by exact Nat.le_of_ble_eq_true rfl) (hs : swapsWith e (some (.Attribute o f pos')) pos.line X.env = pure false := by rfl) : JS X B S (.Assign [.Attribute o f pos'] e pos :: rest) D :=
  js_step (ps_fld pe0 pe0 hs) fun T tv σ H h => he _ _ _ _ _ h fun v H1 h1 => ho _ _ _ _ _ h1 fun w H2 h2 => by
    have e := h2.exact
    subst e
    have h3 := (h2.drop).lift k hk (by nofun)
    obtain ⟨G, o', mm, a1, hpp, hc, hy, n1, n2, wr⟩ := h3.write2
    cases hc with
    | @ins _ dx _ gs _ hks hss =>
      have hl : gs.length < 1000 := by
        have := congrArg List.length hks
        rw [List.length_map, List.length_map] at this
        omega
      have hss' : SsI G (upd H2 p (.ins C dx (putF f v gs))) (fs.map (·.2)) (gs.map (·.2)) mm := hss.mono (Ex.refl G) fun a ha => upd_ne (n1 a ha)
      have hy' : SlI G (upd H2 p (.ins C dx (putF f v gs))) y v a1 := hy.mono (Ex.refl G) fun a ha => upd_ne (n2 a ha)
      obtain ⟨as', d, i1, i2⟩ := put_sndA f hy' hks hss'
      exact ⟨p, C, dx, gs, rfl, hpp, cl, na, hl, kx _ _ _ _ ((wr (.ins (put_fst f y v hks) i2) i1).lower k hk)⟩
theorem SsI.getP {G H : Hp} : ∀ {ss : List Slot} {vs : List V} {as : List Addr} (i : Nat) {s : Slot}, SsI G H ss vs as → ss[i]? = some s → s.plain = true → ∃ u, vs[i]? = some u ∧ SlI G H s u []
  | [], _, _, _, _, _, e, _ => by simp at e
  | s0 :: ss, _, _, 0, s, h, e, hp => by
    have e1 : s0 = s := Option.some.inj e
    subst e1
    cases h with
    | cons h1 h2 =>
      have := h1.nil hp
      subst this
      exact ⟨_, rfl, h1⟩
  | s0 :: ss, _, _, i + 1, s, h, e, hp => by
    cases h with
    | cons h1 h2 => exact SsI.getP (ss := ss) i h2 e hp
theorem je_ixC (k : Nat) {s : Slot} {i : Int} (ha : JE X B S a S1 (.v (.ref p))) (hb : JE X B S1 b S2 (.val i)) (hk : S2.cs[k]? = some (p, .lst ss)) (hi : gx ss i = some s) (hp : s.plain = true := by rfl) (hs : PlainIx b := by exact fun _ _ => rfl) : JE X B S (.Subscript a b pos) S2 s := fun T tv σ H Q h q =>
  pe1 (pe_ix ix_list pe0 pe0 hs) (ha _ _ _ _ _ h fun v H1 h1 => hb _ _ _ _ _ h1 fun u H2 h2 => by
    have e := h2.int
    subst e
    have h3 := h2.drop
    have e := h3.exact
    subst e
    obtain ⟨G, as, bs, z⟩ := h3.drop
    obtain ⟨oo, mm, hpp, hc, _⟩ := z.cellW hk (by nofun)
    cases hc with
    | @lst _ vs _ hss =>
      rw [gx_ixp] at hi
      cases hj : ixp ss.length i with
      | none => rw [hj] at hi; cases hi
      | some j =>
        rw [hj] at hi
        obtain ⟨w, hw, sw⟩ := hss.getP j hi hp
        refine ⟨p, vs, i, w, rfl, rfl, .inl (.of hpp), ?_, q w H2 (z.push sw)⟩
        rw [atI_gx, gx_ixp, ← hss.len, hj]
        exact hw)
end
section
variable {α : Type} {f : α → Cel} {xs ys : List α} {X : Cx} {B : Base} {S S1 S2 S3 : Stt} {x y z : Slot} {a b e o tg : Expr} {es : List Expr} {pos apos : Pos} {D : FE} {rest : List Stmt} {T : List Slot} {σ : L2.St} {tv : List V} {H : Hp} {p q : Addr} {v : V} {n : Nat} {i : Int}
def mlC (f : α → Cel) (xs : List α) : Cel := .lst (xs.map fun x => .own (f x))
end
section
end
end J
namespace J
open PySem PySem.Spec PyProof.Rows L2
open PySem.W (Datum)
section
end
end J
namespace J
open PySem PySem.Spec PyProof.Rows L2
open PySem.W (Datum)
section
end
section
end
end J
namespace J
open PySem PySem.Spec PyProof.Rows L2
open PySem.W (Datum)
section
end
end J
namespace J
open PySem PySem.Spec PyProof.Rows L2
open PySem.W (Datum)
section
variable {X : Cx} {B : Base} {S S1 S2 S3 : Stt} {x y z : Slot} {a b e o i e2 : Expr} {es : List Expr} {pos apos cpos : Pos} {D : FE} {rest : List Stmt} {kk : Nat} {p C : Addr} {fs fs0 : List (Str × Slot)} {f : Str}
/-- o.f += e -/
theorem js_faug (k : Nat) {tpos : Pos} {op : Operator} {g : Int → Int → Int} {m n : Int} (hop : InOp X op fun x y H Q => ∃ i j, x = .int i ∧ y = .int j ∧ Q (.int (g i j)) H) (cl : Cls X.K C) (na : NoAttr X.K C f) (ho : JE X B S o S1 (.v (.ref p))) (hk0 : S1.cs[k]? = some (p, .ins C fs0)) (hm : fs0.lookup f = some (.val m)) (he : JE X B S1 e S2 (.val n)) (hk : S2.cs[k]? = some (p, .ins C fs)) (kx : JS X B ⟨S2.sl, S2.cs.set k (p, .ins C (putS f (.val (g m n)) fs))⟩ rest D) (hn : fs.length < 1000 := by exact Nat.le_of_ble_eq_true rfl) : JS X B S (.AugAssign (.Attribute o f tpos) op e pos :: rest) D :=
  js_step (ps_fldaug pe0 pe0 hop) fun T tv σ H h => ho _ _ _ _ _ h fun w1 H1 h1 => by
    have e := h1.exact
    subst e
    obtain ⟨G, as, bs, z⟩ := id h1
    obtain ⟨oo, mm, hpp, hc, _⟩ := z.cellW hk0 (by nofun)
    cases hc with
    | @ins _ dx _ gs _ hks hss =>
      obtain ⟨u, hu, su⟩ := fld_rel rfl hks hss hm
      have h2 : Sta B S1 (.val m :: .v (.ref p) :: T) σ (u :: .ref p :: tv) H1 := z.push su
      have eu := h2.int
      subst eu
      refine ⟨p, C, dx, gs, .int m, rfl, hpp, cl, na, hu, he _ _ _ _ _ h2 fun w2 H2 h3 => ?_⟩
      have ew := h3.int
      subst ew
      refine ⟨m, n, rfl, rfl, ?_⟩
      have h4 : Sta B S2 (.val (g m n) :: T) σ (.int (g m n) :: tv) H2 := h3.drop.drop.drop.push fun _ _ => sl_int _
      have h5 := h4.lift k hk (by nofun)
      obtain ⟨G2, o2, m2, a1, hp2, hc2, hy, n1, n2, wr⟩ := h5.write2
      cases hc2 with
      | @ins _ dx2 _ gs2 _ hks2 hss2 =>
        have hl : gs2.length < 1000 := by
          have := congrArg List.length hks2
          rw [List.length_map, List.length_map] at this
          omega
        have hss' := hss2.mono (H' := upd H2 p (.ins C dx2 (putF f (.int (g m n)) gs2))) (Ex.refl G2) fun a ha => upd_ne (n1 a ha)
        have hy' := hy.mono (H' := upd H2 p (.ins C dx2 (putF f (.int (g m n)) gs2))) (Ex.refl G2) fun a ha => upd_ne (n2 a ha)
        obtain ⟨as', d, i1, i2⟩ := put_sndA f hy' hks2 hss'
        exact ⟨dx2, gs2, hp2, hl, kx _ _ _ _ ((wr (.ins (put_fst f _ _ hks2) i2) i1).lower k hk)⟩
end
end J
namespace J
end J
namespace J
open PySem PySem.Spec PyProof.Rows L2
open PySem.W (Datum)
section
end
end J
namespace J
open PySem PySem.Spec PyProof.Rows L2
open PySem.W (Datum)
section
end
mutual
inductive Tl (cs : List (Addr × Cel)) : Slot → PyData → Prop where
  | val {α : Type} [DecidableEq α] [Datum α] {t : α} : Tl cs (.val t) (Datum.toD t)
  | non : Tl cs (.v .non) .none
  | own {c : Cel} {d : PyData} : TlC cs c d → Tl cs (.own c) d
  | ref (k : Nat) {p : Addr} {c : Cel} {d : PyData} : cs[k]? = some (p, c) → TlC cs c d → Tl cs (.v (.ref p)) d
inductive TlC (cs : List (Addr × Cel)) : Cel → PyData → Prop where
  | lst {ss : List Slot} {ds : List PyData} : Tls cs ss ds → TlC cs (.lst ss) (.list ds)
inductive Tls (cs : List (Addr × Cel)) : List Slot → List PyData → Prop where
  | nil : Tls cs [] []
  | cons {s : Slot} {d : PyData} {ss : List Slot} {ds : List PyData} : Tl cs s d → Tls cs ss ds → Tls cs (s :: ss) (d :: ds)
end
section
variable {cs : List (Addr × Cel)}
variable {G H : Hp}
mutual
theorem Tl.dq {bs : List Addr} (hc : CsI G H cs bs) (e : Ex G H) : ∀ {s : Slot} {d : PyData} {u : V} {as : List Addr}, Tl cs s d → SlI G H s u as → Dq H u d
  | _, _, _, _, @Tl.val _ α i1 i2 t, h => by cases h with | val h => exact dq_mono e h
  | _, _, _, _, .non, .v => .non
  | _, _, _, _, .own t, .own hp h => TlC.dq hc e t hp h
  | _, _, _, _, .ref k hk t, .v => by
    obtain ⟨l, o, m, r, _, hp, h, _⟩ := CsI.at k hc hk (by rintro rfl; cases t)
    exact TlC.dq hc e t hp h
theorem TlC.dq {bs : List Addr} (hc : CsI G H cs bs) (e : Ex G H) : ∀ {c : Cel} {d : PyData} {p : Addr} {o : HO} {as : List Addr}, TlC cs c d → H p = some o → CeI G H c o as → Dq H (.ref p) d
  | _, _, _, _, _, .lst t, hp, .lst h => .lst hp (Tls.dq hc e t h)
theorem Tls.dq {bs : List Addr} (hc : CsI G H cs bs) (e : Ex G H) : ∀ {ss : List Slot} {ds : List PyData} {us : List V} {as : List Addr}, Tls cs ss ds → SsI G H ss us as → DqAll H us ds
  | _, _, _, _, .nil, .nil => .nil
  | _, _, _, _, .cons t ts, .cons h hs => .cons (Tl.dq hc e t h) (Tls.dq hc e ts hs)
end
end
/-- data that are no places -/
inductive Scal : PyData → Prop where
  | non : Scal .none
  | bl (b : Bool) : Scal (.bool b)
  | int (i : Int) : Scal (.int i)
  | str (x : Str) : Scal (.str x)
theorem Scal.any {d : PyData} {G G' : Hp} {v : V} (s : Scal d) (h : Dq G v d) : Dq G' v d := by
  cases s with
  | non => cases h; exact .non
  | bl b => cases h; exact .bl b
  | int i => cases h; exact .int i
  | str x => cases h; exact .str x
section
end
end J
namespace J
open PySem PySem.Spec PyProof.Rows L2
open PySem.W (Datum)
section
end
end J
namespace J
open PySem PySem.Spec PyProof.Rows L2
open PySem.W (Datum)
section
end
section
end
end J
namespace J
open PySem PySem.Spec PyProof.Rows L2
open PySem.W (Datum)
section
variable {X : Cx} {B : Base} {S S1 S2 : Stt} {D : FE} {rest : List Stmt} {p : Addr} {c : Cel} {o : Expr} {pos : Pos} {y : Slot} {ss : List Slot}
/-- o[ix] = .., a list with things of our own; what is stored may be one -/
theorem jg_setA (k j : Nat) {i : Int} {ix : Expr} (ho : JE X B S o S1 (.v (.ref p))) (hi : JE X B S1 ix S2 (.val i)) (hk : S2.cs[k]? = some (p, .lst ss)) (hj : ixp ss.length i = some j)
    (ha : ∀ v, assign (.Subscript o ix pos) X.env v = (do
      let ov ← holding [v] (eval o X.env)
      let iv ← holding [v, ov] (eval ix X.env)
      standAt pos
      holding [v, ov, iv] (setItem ov iv v)
      release [v, ov, iv] []) := by intro _; rfl) : JG X B S (.Subscript o ix pos) y ⟨S2.sl, S2.cs.set k (p, .lst (ss.set j y))⟩ [] := fun T tv σ v H Q h q =>
  pg1 (pg_sub pe0 pe0 set_list ha) (ho _ _ _ _ _ h fun w H1 h1 => by
    have e := h1.exact
    subst e
    refine hi _ _ _ _ _ h1 fun w H2 h2 => ?_
    have e := h2.int
    subst e
    have h3 := (h2.drop.drop).lift k hk (by nofun)
    obtain ⟨G, oo, m, a1, hpp, hc, hy, n1, n2, wr⟩ := h3.write2
    cases hc with
    | @lst _ vs0 _ hs =>
      refine ⟨p, vs0, i, j, rfl, rfl, hpp, by rw [← hs.len]; exact hj, ?_⟩
      have hs' := hs.mono (H' := upd H2 p (.lst (vs0.set j v))) (Ex.refl G) fun a ha => upd_ne (n1 a ha)
      have hy' := hy.mono (H' := upd H2 p (.lst (vs0.set j v))) (Ex.refl G) fun a ha => upd_ne (n2 a ha)
      have hjl : j < ss.length := by
        unfold ixp at hj
        split at hj
        · split at hj
          · cases hj; omega
          · cases hj
        · split at hj
          · cases hj; omega
          · cases hj
      obtain ⟨b1, mo, b2, rfl, reb⟩ := hs'.setAt j (List.getElem?_eq_getElem hjl)
      exact q _ _ (Chg.refl _ _) ((wr (.lst (reb hy')) perm_put).lower k hk))
end
end J
namespace J
open PySem PySem.Spec PyProof.Rows L2
open PySem.W (Datum)
section
variable {X : Cx} {B : Base} {S S1 S2 S3 : Stt} {x y z : Slot} {a b e o : Expr} {es : List Expr} {pos apos cpos : Pos} {D : FE} {rest : List Stmt} {k lv : Nat} {p : Addr} {d d2 : PyData}
theorem sl_raw {G H : Hp} {v : V} {as : List Addr} (h : SlI G H (rawS d) v as) : Dq G v d ∧ as = [] := by
  cases h with
  | say _ h => exact ⟨h, rfl⟩
mutual
inductive TlR (cs : List (Addr × Cel)) : Slot → PyData → Prop where
  | val {α : Type} [DecidableEq α] [Datum α] {t : α} : TlR cs (.val t) (Datum.toD t)
  | raw {d : PyData} : TlR cs (rawS d) d
  | non : TlR cs (.v .non) .none
  | own {c : Cel} {d : PyData} : TlRC cs c d → TlR cs (.own c) d
  | ref (k : Nat) {p : Addr} {c : Cel} {d : PyData} : cs[k]? = some (p, c) → TlRC cs c d → TlR cs (.v (.ref p)) d
inductive TlRC (cs : List (Addr × Cel)) : Cel → PyData → Prop where
  | lst {ss : List Slot} {ds : List PyData} : TlRs cs ss ds → TlRC cs (.lst ss) (.list ds)
inductive TlRs (cs : List (Addr × Cel)) : List Slot → List PyData → Prop where
  | nil : TlRs cs [] []
  | cons {s : Slot} {d : PyData} {ss : List Slot} {ds : List PyData} : TlR cs s d → TlRs cs ss ds → TlRs cs (s :: ss) (d :: ds)
end
section
variable {cs : List (Addr × Cel)}
variable {G H : Hp}
mutual
theorem TlR.dq {bs : List Addr} (hc : CsI G H cs bs) (e : Ex G H) : ∀ {s : Slot} {d : PyData} {u : V} {as : List Addr}, TlR cs s d → SlI G H s u as → Dq H u d
  | _, _, _, _, @TlR.val _ α i1 i2 t, h => by cases h with | val h => exact dq_mono e h
  | _, _, _, _, .raw, h => dq_mono e (sl_raw h).1
  | _, _, _, _, .non, .v => .non
  | _, _, _, _, .own t, .own hp h => TlRC.dq hc e t hp h
  | _, _, _, _, .ref k hk t, .v => by
    obtain ⟨l, o, m, r, _, hp, h, _⟩ := CsI.at k hc hk (by rintro rfl; cases t)
    exact TlRC.dq hc e t hp h
theorem TlRC.dq {bs : List Addr} (hc : CsI G H cs bs) (e : Ex G H) : ∀ {c : Cel} {d : PyData} {p : Addr} {o : HO} {as : List Addr}, TlRC cs c d → H p = some o → CeI G H c o as → Dq H (.ref p) d
  | _, _, _, _, _, .lst t, hp, .lst h => .lst hp (TlRs.dq hc e t h)
theorem TlRs.dq {bs : List Addr} (hc : CsI G H cs bs) (e : Ex G H) : ∀ {ss : List Slot} {ds : List PyData} {us : List V} {as : List Addr}, TlRs cs ss ds → SsI G H ss us as → DqAll H us ds
  | _, _, _, _, .nil, .nil => .nil
  | _, _, _, _, .cons t ts, .cons h hs => .cons (TlR.dq hc e t h) (TlRs.dq hc e ts hs)
end
end
end
end J
namespace J
open PySem
end J
namespace J
open PySem PySem.Spec PyProof.Rows L2
open PySem.W (Datum)
section
end
end J
namespace J
open PySem PySem.Spec PyProof.Rows L2
open PySem.W (Datum)
end J
namespace J
open PySem PySem.Spec PyProof.Rows L2
open PySem.W (Datum)
section
end
end J
namespace J
open PySem PySem.Spec PyProof.Rows L2
open PySem.W (Datum)
end J
namespace J
open PySem PySem.Spec PyProof.Rows L2
open PySem.W (Datum)
section
end
end J
namespace J
open PySem PySem.Spec PyProof.Rows L2
open PySem.W (Datum)
section
variable {B : Base} {S : Stt}
theorem Sta.foldA {T : List Slot} {σ : L2.St} {tv : List V} {H : Hp} {q : Addr} {v : V} {c d : Cel} (h : Sta B S (.own c :: T) σ (v :: tv) H) (k j : Nat) (hj : c.nth j = some (.v (.ref q))) (hk : S.cs[k]? = some (q, d)) (hg : d ≠ .gone) : Sta B ⟨S.sl, S.cs.set k (q, .gone)⟩ (.own (c.sub j (.ownA q d)) :: T) σ (v :: tv) H := by
  obtain ⟨G, as, bs, z⟩ := h
  obtain ⟨a1, a2, rfl, g, z'⟩ := z.pop
  cases g with
  | @own _ p o m hp hc =>
    obtain ⟨l, od, md, r, rfl, hq, hd, reb⟩ := z.cel.at k hk hg
    obtain ⟨b1, u, m1, b2, rfl, hs1, reb2⟩ := hc.part j hj
    cases hs1 with
    | v =>
      have c2 := reb2 (.ownA hq hd)
      have pm : ((p :: (b1 ++ (q :: md) ++ b2)) ++ a2 ++ (l ++ r)).Perm ((p :: (b1 ++ [] ++ b2)) ++ a2 ++ (l ++ (q :: md) ++ r)) := by
        rw [List.append_nil]
        have e1 : ((p :: (b1 ++ (q :: md) ++ b2)) ++ a2 ++ (l ++ r)).Perm ((q :: md) ++ ((p :: (b1 ++ b2)) ++ a2 ++ (l ++ r))) := by
          have f1 : (p :: (b1 ++ (q :: md) ++ b2)).Perm ((q :: md) ++ (p :: (b1 ++ b2))) := by
            have g1 : (b1 ++ (q :: md) ++ b2).Perm ((q :: md) ++ (b1 ++ b2)) := by
              rw [← List.append_assoc]
              exact List.Perm.append_right _ List.perm_append_comm
            have g2 : (p :: ((q :: md) ++ (b1 ++ b2))).Perm ((q :: md) ++ (p :: (b1 ++ b2))) := List.perm_middle.symm
            exact (List.Perm.cons p g1).trans g2
          have f2 := List.Perm.append_right (l ++ r) (List.Perm.append_right a2 f1)
          rw [List.append_assoc (q :: md), List.append_assoc (q :: md)] at f2
          exact f2
        refine e1.trans ?_
        have e2 : (l ++ (q :: md) ++ r).Perm ((q :: md) ++ (l ++ r)) := by
          rw [← List.append_assoc]
          exact List.Perm.append_right _ List.perm_append_comm
        have e3 := List.Perm.append_left ((p :: (b1 ++ b2)) ++ a2) e2
        refine List.Perm.trans ?_ e3.symm
        rw [← List.append_assoc, ← List.append_assoc ((p :: (b1 ++ b2)) ++ a2)]
        exact List.Perm.append_right _ List.perm_append_comm
      exact ⟨G, _, l ++ r, .cons (.own hp c2) z'.tmp, (reb (Ex.refl G) fun _ _ => rfl).2 q, z.slo, pm.nodup_iff.mpr z.nod, fun a ha => z.fre a (pm.mem_iff.mp ha), z.gro, z.new, z.sub, z.frm⟩end
section
variable {X : Cx} {B : Base} {S S1 S2 S3 : Stt} {x y z : Slot} {a b e o tg : Expr} {es : List Expr} {pos apos : Pos} {D : FE} {rest : List Stmt} {T : List Slot} {σ : L2.St} {tv : List V} {H : Hp} {p q : Addr} {c d : Cel} {v : V}
theorem Sta.foldAtA (k k2 j : Nat) (hk : S.cs[k]? = some (p, c)) (hj : c.nth j = some (.v (.ref q))) (hk2 : S.cs[k2]? = some (q, d)) (hne : k ≠ k2) (hgc : c ≠ .gone) (hg : d ≠ .gone) (h : Sta B S T σ tv H) : Sta B ⟨S.sl, (S.cs.set k (p, c.sub j (.ownA q d))).set k2 (q, .gone)⟩ T σ tv H := by
  have h1 := h.lift k hk hgc
  have h2 := h1.foldA k2 j hj (S := ⟨S.sl, S.cs.set k (p, .gone)⟩) (get_set_ne hne hk2) hg
  obtain ⟨hlt, _⟩ := List.getElem?_eq_some_iff.mp hk
  have h3 := h2.back k (S := ⟨S.sl, (S.cs.set k (p, .gone)).set k2 (q, .gone)⟩) (q0 := p) (c0 := .gone) (get_set_ne (Ne.symm hne) (by rw [List.getElem?_set, if_pos rfl, if_pos hlt])) rfl
  have e : ((S.cs.set k (p, Cel.gone)).set k2 (q, Cel.gone)).set k (p, c.sub j (.ownA q d)) = (S.cs.set k (p, c.sub j (.ownA q d))).set k2 (q, .gone) := by
    rw [List.set_comm _ _ (Ne.symm hne), List.set_set]
  have h4 : Sta B ⟨S.sl, ((S.cs.set k (p, Cel.gone)).set k2 (q, Cel.gone)).set k (p, c.sub j (.ownA q d))⟩ T σ tv H := h3
  rw [e] at h4
  exact h4
theorem Sta.openAt (k j : Nat) (hk : S.cs[k]? = some (p, c)) (hj : c.nth j = some (.ownA q d)) (hs : Sta B S T σ tv H) : Sta B ⟨S.sl, S.cs.set k (p, c.sub j (.v (.ref q))) ++ [(q, d)]⟩ T σ tv H := by
  obtain ⟨G, as, bs, z⟩ := hs
  have hg : c ≠ .gone := by intro e; subst e; cases hj
  obtain ⟨l, o, m, r, rfl, hp, hc, reb⟩ := z.cel.at k hk hg
  obtain ⟨a1, u, m1, a2, rfl, hs1, reb2⟩ := hc.part j hj
  cases hs1 with
  | @ownA _ q od mq hq hd =>
    have c2 := (reb (Ex.refl G) fun _ _ => rfl).1 hp (reb2 (.v : SlI G H (.v (.ref q)) (.ref q) []))
    have c3 := c2.app (.cons hq hd .nil)
    have pm : (l ++ p :: (a1 ++ [] ++ a2) ++ r ++ (q :: (mq ++ []))).Perm (l ++ p :: (a1 ++ q :: mq ++ a2) ++ r) := by
      simp only [List.append_nil, List.append_assoc, List.cons_append]
      refine List.Perm.append_left l (List.Perm.cons p (List.Perm.append_left a1 ?_))
      have e1 : ((a2 ++ r) ++ (q :: mq)).Perm ((q :: mq) ++ (a2 ++ r)) := List.perm_append_comm
      simpa only [List.append_assoc, List.cons_append] using e1
    have pm2 := List.Perm.append_left as pm
    exact ⟨G, as, _, z.tmp, c3, z.slo, pm2.nodup_iff.mpr z.nod, fun a ha => z.fre a (pm2.mem_iff.mp ha), z.gro, z.new, z.sub, z.frm⟩
end
section
variable {α : Type} {f : α → Cel} {xs ys : List α} {qs : List Addr} {X : Cx} {B : Base} {S S1 S2 S3 : Stt} {x y z : Slot} {a b e o tg : Expr} {es : List Expr} {pos apos : Pos} {D : FE} {rest : List Stmt} {T : List Slot} {σ : L2.St} {tv : List V} {G H : Hp} {p q : Addr} {v : V} {n : Nat} {i : Int}
def mlAs (f : α → Cel) (qs : List Addr) (xs : List α) : List Slot := List.zipWith (fun q x => Slot.ownA q (f x)) qs xs
/-- what there is not -/
def badC : Cel := .lst [.say fun _ _ => False]
theorem bad_out {k : Nat} (hk : S.cs[k]? = some (p, badC)) (h : Sta B S T σ tv H) : False := by
  obtain ⟨G, as, bs, z⟩ := h
  obtain ⟨l, o, m, r, rfl, hp, hc, reb⟩ := z.cel.at k hk (by nofun)
  cases hc with
  | lst hs =>
    cases hs with
    | cons c _ =>
      cases c with
      | say _ c => exact c
/-- a list of things of our own: where each stands is told by qs -/
def mlA (f : α → Cel) (qs : List Addr) (xs : List α) : Cel := if qs.length = xs.length then .lst (mlAs f qs xs) else badC
/-- .. the n-th, at q, being out -/
def mlAH (f : α → Cel) (qs : List Addr) (xs : List α) (n : Nat) (q : Addr) : Cel := if qs.length = xs.length then .lst ((mlAs f qs xs).set n (.v (.ref q))) else badC
theorem mlA_ok (h : qs.length = xs.length) : mlA f qs xs = .lst (mlAs f qs xs) := if_pos h
theorem mlA_no (h : ¬ qs.length = xs.length) : mlA f qs xs = badC := if_neg h
theorem mlA_ng : ∀ {qs : List Addr} {xs : List α}, mlA f qs xs ≠ .gone := fun {qs xs} => by
  unfold mlA badC
  split <;> nofun
theorem ss_expose : ∀ {xs : List α} {vs : List V} {as : List Addr}, SsI G H (xs.map fun x => Slot.own (f x)) vs as → ∃ qs : List Addr, qs.length = xs.length ∧ SsI G H (mlAs f qs xs) vs as
  | [], _, _, h => by cases h; exact ⟨[], rfl, .nil⟩
  | x :: xs, _, _, h => by
    cases h with
    | cons h1 h2 =>
      obtain ⟨qs, hl, h3⟩ := ss_expose h2
      cases h1 with
      | @own _ q o m hq hc => exact ⟨q :: qs, by rw [List.length_cons, List.length_cons, hl], .cons (.ownA hq hc) h3⟩
theorem ss_hide : ∀ {xs : List α} {qs : List Addr} {vs : List V} {as : List Addr}, qs.length = xs.length → SsI G H (mlAs f qs xs) vs as → SsI G H (xs.map fun x => Slot.own (f x)) vs as ∧ vs = qs.map V.ref
  | [], [], _, _, _, h => by cases h; exact ⟨.nil, rfl⟩
  | [], _ :: _, _, _, e, _ => by cases e
  | _ :: _, [], _, _, e, _ => by cases e
  | x :: xs, q :: qs, _, _, e, h => by
    cases (show SsI G H (Slot.ownA q (f x) :: mlAs f qs xs) _ _ from h) with
    | cons h1 h2 =>
      obtain ⟨h3, h4⟩ := ss_hide (Nat.succ.inj e) h2
      cases h1 with
      | ownA hq hc => exact ⟨.cons (.own hq hc) h3, by rw [h4]; rfl⟩
theorem Sta.exposeM (k : Nat) (hk : S.cs[k]? = some (p, mlC f xs)) (h : Sta B S T σ tv H) : ∃ qs : List Addr, qs.length = xs.length ∧ Sta B ⟨S.sl, S.cs.set k (p, mlA f qs xs)⟩ T σ tv H := by
  obtain ⟨G, as, bs, z⟩ := h
  obtain ⟨l, o, m, r, rfl, hp, hc, reb⟩ := z.cel.at k hk (by nofun)
  cases hc with
  | lst hs =>
    obtain ⟨qs, hl, h3⟩ := ss_expose hs
    refine ⟨qs, hl, ?_⟩
    rw [mlA_ok hl]
    exact ⟨G, as, _, z.tmp, (reb (Ex.refl G) fun _ _ => rfl).1 hp (.lst h3), z.slo, z.nod, z.fre, z.gro, z.new, z.sub, z.frm⟩
theorem js_exposeM (k : Nat) (hk : S.cs[k]? = some (p, mlC f xs)) (h : ∀ qs : List Addr, qs.length = xs.length → JS X B ⟨S.sl, S.cs.set k (p, mlA f qs xs)⟩ rest D) : JS X B S rest D := fun T tv σ H hs =>
  let ⟨qs, hl, h1⟩ := hs.exposeM k hk
  h qs hl _ _ _ _ h1
theorem ss_refsV : ∀ qs : List Addr, SsI G H (qs.map fun q => Slot.v (.ref q)) (qs.map V.ref) []
  | [] => .nil
  | _ :: qs => .cons (as := []) .v (ss_refsV qs)
theorem lv_mlA (k : Nat) (hk : S.cs[k]? = some (p, mlA f qs xs)) : Lv X.K B S (.v (.ref p)) (qs.map fun q => Slot.v (.ref q)) := fun z => by
  by_cases hl : qs.length = xs.length
  · rw [mlA_ok hl] at hk
    obtain ⟨a1, a2, _, h, z'⟩ := z.pop
    cases h with
    | v =>
      obtain ⟨l, o, m, r, _, hp, hc, _⟩ := z.cel.at k hk (by nofun)
      cases hc with
      | lst hs =>
        obtain ⟨_, rfl⟩ := ss_hide hl hs
        exact ⟨p, _, rfl, .inl (.of hp), ss_refsV qs⟩
  · rw [mlA_no hl] at hk
    exact (bad_out hk ⟨_, _, _, z⟩).elim
/-- the things and their places -/
def idxs (qs : List Addr) : List (Addr × Nat) := qs.zipIdx
def refI (a : Addr × Nat) : Slot := .v (.ref a.1)
theorem idxs_ref : (idxs qs).map refI = qs.map fun q => Slot.v (.ref q) := by
  unfold idxs refI
  have : (qs.zipIdx.map fun a => Slot.v (.ref a.1)) = (qs.zipIdx.map Prod.fst).map fun q => Slot.v (.ref q) := by rw [List.map_map]; rfl
  rw [this, List.zipIdx_map_fst]
theorem idxs_at {a : Addr × Nat} (h : a ∈ idxs qs) : qs[a.2]? = some a.1 := by
  obtain ⟨x, i⟩ := a
  exact List.mk_mem_zipIdx_iff_getElem?.mp h
theorem idxs_rng : ((idxs qs).map fun a => (a.2 : Int)) = rng 0 qs.length := by
  unfold idxs rng
  have : (qs.zipIdx.map fun a => (a.2 : Int)) = (qs.zipIdx.map Prod.snd).map fun i : Nat => (i : Int) := by rw [List.map_map]; rfl
  rw [this, List.zipIdx_map_snd, List.range_eq_range']
  exact List.map_congr_left fun i _ => (Int.zero_add _).symm
theorem cmpM_map {ι β γ δ : Type} {g : ι → γ → Option (Option δ × ι)} {h : β → γ} : ∀ {l : List β} {s : ι}, cmpM (fun s x => g s (h x)) l s = cmpM g (l.map h) s
  | [], _ => rfl
  | x :: l, s => by
    show (g s (h x)).bind _ = (g s (h x)).bind _
    cases g s (h x) with
    | none => rfl
    | some p =>
      show (cmpM (fun s x => g s (h x)) l p.2).bind _ = (cmpM g (l.map h) p.2).bind _
      rw [cmpM_map (l := l)]
theorem cmpM_idx {ι δ : Type} {g : ι → Int → Option (Option δ × ι)} {s : ι} {r : List δ × ι} {n : Nat} (hl : qs.length = n) (h : cmpM g (rng 0 n) s = some r) : cmpM (fun s (a : Addr × Nat) => g s (a.2 : Int)) (idxs qs) s = some r := by
  rw [cmpM_map, idxs_rng, hl]
  exact h
theorem mlAH_nth {x : α} (hl : qs.length = xs.length) (hq : qs[n]? = some q) (hx : xs[n]? = some x) : (mlAs f qs xs)[n]? = some (.ownA q (f x)) := by
  unfold mlAs
  rw [List.getElem?_zipWith, hq, hx]
theorem le_openA (k n : Nat) {x : α} (hq : qs[n]? = some q) (hx : xs[n]? = some x) (hk : S.cs[k]? = some (p, mlA f qs xs)) : Le B S ⟨S.sl, S.cs.set k (p, mlAH f qs xs n q) ++ [(q, f x)]⟩ := fun T tv σ H h => by
  by_cases hl : qs.length = xs.length
  · rw [mlA_ok hl] at hk
    have := h.openAt k n hk (show (mlAs f qs xs)[n]? = _ from mlAH_nth hl hq hx)
    have e : (Cel.lst (mlAs f qs xs)).sub n (.v (.ref q)) = mlAH f qs xs n q := (if_pos hl).symm
    rw [e] at this
    exact this
  · rw [mlA_no hl] at hk
    exact (bad_out hk h).elim
theorem set_mlAs {x : α} (hq : qs[n]? = some q) : ((mlAs f qs xs).set n (.v (.ref q))).set n (.ownA q (f x)) = mlAs f qs (xs.set n x) := by
  rw [List.set_set]
  unfold mlAs
  apply List.ext_getElem?
  intro m
  rw [List.getElem?_set, List.getElem?_zipWith, List.getElem?_zipWith, List.getElem?_set]
  by_cases c : n = m
  · subst c
    rw [if_pos rfl, if_pos rfl, hq, List.length_zipWith]
    have h1 := (List.getElem?_eq_some_iff.mp hq).1
    by_cases h2 : n < xs.length
    · rw [if_pos (by omega), if_pos h2]
    · rw [if_neg (by omega), if_neg h2]
  · rw [if_neg c, if_neg c]
theorem le_closeA (k k2 n mm : Nat) {x : α} (hq : qs[n]? = some q) (hk : S.cs[k]? = some (p, mlAH f qs xs n q)) (hk2 : S.cs[k2]? = some (q, f x)) (hne : k ≠ k2) (ng : ∀ x, f x ≠ .gone) : Le B S ⟨S.sl, ((S.cs.set k (p, mlA f qs (xs.set n x))).set k2 (q, .gone)).take mm⟩ := fun T tv σ H h => by
  by_cases hl : qs.length = xs.length
  · have e : mlAH f qs xs n q = .lst ((mlAs f qs xs).set n (.v (.ref q))) := if_pos hl
    rw [e] at hk
    have hlt : n < (mlAs f qs xs).length := by
      unfold mlAs
      rw [List.length_zipWith]
      have := (List.getElem?_eq_some_iff.mp hq).1
      omega
    have h1 := h.foldAtA k k2 n hk (show ((mlAs f qs xs).set n (Slot.v (.ref q)))[n]? = _ from List.getElem?_set_self hlt) hk2 hne (by nofun) (ng x)
    have e2 : (Cel.lst ((mlAs f qs xs).set n (Slot.v (.ref q)))).sub n (.ownA q (f x)) = mlA f qs (xs.set n x) := by
      rw [mlA_ok (by rw [List.length_set]; exact hl)]
      exact congrArg Cel.lst (set_mlAs hq)
    rw [e2] at h1
    exact h1.take mm
  · have e : mlAH f qs xs n q = badC := if_neg hl
    rw [e] at hk
    exact (bad_out hk h).elim
end
end J
namespace J
open PySem PySem.Spec PyProof.Rows L2
open PySem.W (Datum)
section
variable {α : Type} {f : α → Cel} {xs ys : List α} {qs : List Addr} {B : Base} {S : Stt} {p q : Addr} {n : Nat}
theorem gx_natI {x : α} (h : gx xs ((n : Nat) : Int) = some x) : xs[n]? = some x := by
  unfold gx at h
  rw [if_pos (by omega), Int.toNat_natCast] at h
  exact h
theorem le_openI (k n : Nat) {x : α} (hq : qs[n]? = some q) (hx : gx xs ((n : Nat) : Int) = some x) (hk : S.cs[k]? = some (p, mlA f qs xs)) : Le B S ⟨S.sl, S.cs.set k (p, mlAH f qs xs n q) ++ [(q, f x)]⟩ := le_openA k n hq (gx_natI hx) hk
end
end J
namespace J
end J
namespace J
open PySem PySem.Spec PyProof.Rows L2
open PySem.W (Datum)
section
end
end J
namespace J
open PySem PySem.Spec PyProof.Rows L2
open PySem.W (Datum)
section
end
end J
namespace J
open PySem PySem.Spec PyProof.Rows L2
open PySem.W (Datum)
section
end
section
end
section
end
end J
namespace J
open PySem PySem.Spec PyProof.Rows L2
open PySem.W (Datum)
section
variable {X : Cx} {B : Base} {S S1 S2 : Stt} {x : Slot} {e : Expr}
theorem je_open (k j : Nat) {p : Addr} {c d : Cel} (hk : S.cs[k]? = some (p, c)) (hj : c.nth j = some (.own d)) (h : ∀ q, JE X B ⟨S.sl, S.cs.set k (p, c.sub j (.v (.ref q))) ++ [(q, d)]⟩ e S2 x) : JE X B S e S2 x := fun T tv σ H Q hs qq => by
  obtain ⟨G, as, bs, z⟩ := hs
  have hg : c ≠ .gone := by intro e; subst e; cases hj
  obtain ⟨l, o, m, r, rfl, hp, hc, reb⟩ := z.cel.at k hk hg
  obtain ⟨a1, u, m1, a2, rfl, hs1, reb2⟩ := hc.part j hj
  cases hs1 with
  | @own _ q od mq hq hd =>
    have c2 := (reb (Ex.refl G) fun _ _ => rfl).1 hp (reb2 (.v : SlI G H (.v (.ref q)) (.ref q) []))
    have c3 := c2.app (.cons hq hd .nil)
    have pm : (l ++ p :: (a1 ++ [] ++ a2) ++ r ++ (q :: (mq ++ []))).Perm (l ++ p :: (a1 ++ q :: mq ++ a2) ++ r) := by
      simp only [List.append_nil, List.append_assoc, List.cons_append]
      refine List.Perm.append_left l (List.Perm.cons p (List.Perm.append_left a1 ?_))
      have e1 : ((a2 ++ r) ++ (q :: mq)).Perm ((q :: mq) ++ (a2 ++ r)) := List.perm_append_comm
      simpa only [List.append_assoc, List.cons_append] using e1
    have pm2 := List.Perm.append_left as pm
    exact h q T tv σ H Q ⟨G, as, _, z.tmp, c3, z.slo, pm2.nodup_iff.mpr z.nod, fun a ha => z.fre a (pm2.mem_iff.mp ha), z.gro, z.new, z.sub, z.frm⟩ qq
end
end J
namespace J
open PySem PySem.Spec PyProof.Rows L2 HotX
open PySem.W (Datum)
section
end
end J
namespace J
open PySem PySem.Spec PyProof.Rows L2 HotX
open PySem.W (Datum)
/-- the refusal at q is held, and known -/
def HotH (A : Around) (H : Hp) : Prop := ∃ (q : Addr) (c : Value) (d : Option Addr), A.handled = some (.ref q) ∧ H q = some (exa q c d)
def HotB (A : Around) (B : Base) : Prop := ∃ (q : Addr) (c : Value) (d : Option Addr), A.handled = some (.ref q) ∧ B.G q = some (exa q c d)
theorem HotB.h {A : Around} {B : Base} {S : Stt} {T : List Slot} {σ : L2.St} {tv : List V} {H : Hp} (h : HotB A B) (g : Sta B S T σ tv H) : HotH A H := by
  obtain ⟨q, c, d, e1, e2⟩ := h
  obtain ⟨G, as, bs, z⟩ := g
  exact ⟨q, c, d, e1, z.sub _ _ (z.gro _ _ e2)⟩
section
end
section
end
section
end
end J
namespace J
open PySem PySem.Spec PyProof.Rows L2
open PySem.W (Datum)
section
end
section
end
section
end
end J
namespace J
open PySem PySem.Spec PyProof.Rows L2
open PySem.W (Datum)
section
variable {X : Cx} {B : Base} {S S1 S2 : Stt} {x : Slot} {e : Expr} {es : List Expr} {pos : Pos} {D : FE} {rest : List Stmt} {p : Addr} {c : Cel}
theorem ss_plain {G H : Hp} : ∀ {ss : List Slot} {vs : List V} {as : List Addr}, SsI G H ss vs as → (∀ s ∈ ss, s.plain = true) → as = [] ∧ ∀ H', SsI G H' ss vs []
  | _, _, _, .nil, _ => ⟨rfl, fun _ => .nil⟩
  | _, _, _, .cons h1 h2, hp => by
    obtain ⟨e2, k2⟩ := ss_plain h2 fun s hs => hp s (List.mem_cons_of_mem _ hs)
    have e1 := h1.nil (hp _ List.mem_cons_self)
    subst e1
    subst e2
    exact ⟨rfl, fun H' => .cons (as := []) (h1.ok (hp _ List.mem_cons_self)).sl (k2 H')⟩
def two {α : Type} (xs : List α) : Option (α × α) := match xs with
  | [a, b] => some (a, b)
  | _ => none
theorem lh_cellS (k : Nat) {ss : List Slot} (hk : S.cs[k]? = some (p, .lst ss)) (hp : ∀ s ∈ ss, s.plain = true) : Lh B S (.v (.ref p)) ss := fun z => by
  obtain ⟨a1, a2, _, h, z'⟩ := z.pop
  cases h with
  | v =>
    obtain ⟨l, o, m, r, _, hp', hc, _⟩ := z.cel.at k hk (by intro e; cases e)
    cases hc with
    | @lst _ vs _ hss => exact ⟨p, vs, rfl, hp', (ss_plain hss hp).2 _⟩
theorem lh_ownS {ss : List Slot} (hp : ∀ s ∈ ss, s.plain = true) : Lh B S (.own (.lst ss)) ss := fun z => by
  obtain ⟨a1, a2, _, h, z'⟩ := z.pop
  cases h with
  | own hp' hc =>
    cases hc with
    | @lst _ vs _ hss => exact ⟨_, vs, rfl, hp', (ss_plain hss hp).2 _⟩
end
end J
namespace J
open PySem PySem.Spec PyProof.Rows L2
open PySem.W (Datum)
section
end
end J
namespace J
open PySem PySem.Spec PyProof.Rows L2
open PySem.W (Datum)
section
end
end J
namespace J
open PySem PySem.Spec PyProof.Rows L2
open PySem.W (Datum)
section
end
section
variable {α : Type} {f : α → Cel} {xs : List α} {qs : List Addr} {B : Base} {S : Stt} {p q : Addr}
theorem set_self {xs : List α} {n : Nat} {x : α} (h : xs[n]? = some x) : xs.set n x = xs := by
  apply List.ext_getElem?
  intro i
  rw [List.getElem?_set]
  by_cases c : n = i
  · subst c
    rw [if_pos rfl, h]
    have := (List.getElem?_eq_some_iff.mp h).1
    rw [if_pos this]
  · rw [if_neg c]
end
section
end
end J
namespace J
open PySem PySem.Spec PyProof.Rows L2
open PySem.W (Datum)
def rNeE (K : PySem.W.Frag) : R2 := fun x y H Q => ∃ a vs b, x = .ref a ∧ y = .ref b ∧ SqL K H a vs ∧ SqL K H b [] ∧ Q (.bl (decide (vs.length ≠ 0))) H
section
variable {X : Cx} {B : Base} {S S1 S2 S3 : Stt} {x y z : Slot} {a b e o : Expr} {es : List Expr} {pos apos : Pos} {D : FE} {rest : List Stmt} {k : Nat} {p : Addr}
theorem op_neE (hu : X.A.units + 64 < cLine) : OpR X (compareOp .NotEq) (rNeE X.K) := by
  intro pins s σ H x y v u Q I rx ry h
  obtain ⟨a, vs, b, rfl, rfl, h1, h2, q⟩ := h
  cases rx
  cases ry
  obtain ⟨i1, r1, p1, _⟩ := I.list h1
  obtain ⟨i2, r2, p2, _⟩ := I.list h2
  have l1 := r1.length
  have l2 := r2.length
  have n2 : i2 = [] := List.length_eq_zero_iff.mp (by simpa using l2.symm)
  subst n2
  by_cases c : vs.length = 0
  · have n1 : i1 = [] := List.length_eq_zero_iff.mp (by omega)
    subst n1
    have hq : Q (.bl false) H := by rw [decide_eq_false (by simpa using c)] at q; exact q
    exact PySem.SeqAt.RcNeAt.lists (e := fun _ => true) p1.isList p2.isList rfl (by omega) (fun j h1 _ => absurd h1 (by simp)) _ _ _ _ ⟨.bl _, H, I, rfl, hq⟩
  · have hq : Q (.bl true) H := by rw [decide_eq_true (by simpa using c)] at q; exact q
    exact PySem.SeqAt.RcNeAt.lists_lengths p1.isList p2.isList (bne_iff_ne.mpr fun e => c (l1.trans e)) (by omega) _ _ _ _ ⟨.bl _, H, I, rfl, hq⟩
theorem o2_neE {ss : List Slot} (h1 : Lv X.K B S x ss) : O2 X B (rNeE X.K) S x (.own (.lst [])) S (.val (decide (ss.length ≠ 0))) := fun T tv σ v u H Q h q => by
  obtain ⟨G, as, bs, z⟩ := h
  obtain ⟨a1, a2, rfl, g, z'⟩ := z.pop
  obtain ⟨a, vs, rfl, hr, hss⟩ := h1 z'
  cases g with
  | own hp hc =>
    cases hc with
    | lst hc =>
      cases hc
      refine ⟨a, vs, _, rfl, rfl, hr, .of hp, ?_⟩
      rw [← hss.len]
      exact q _ _ (z'.sta.drop.push fun _ _ => sl_bl _)
/-- xs != [] -/
theorem jt_neNil {ss : List Slot} {p3 : Pos} (hr : Room k X.A) (ha : JE X B S a S1 x) (hl : Lv X.K B S1 x ss) : JT X B S (.Compare a [.NotEq] [.List [] p3] pos) S1 (decide (ss.length ≠ 0)) := by
  have hb : JE X B S1 (.List [] p3) S1 (.own (.lst [])) := je_lstv (xs := ([] : List Int)) ja_nil
  exact jt_cmp (op_neE hr.units) ha hb (o2_neE hl) (nomark _)
end
def refS (qs : List Addr) (k : Int) : Slot := .v (.ref (qs.getD k.toNat 0))
theorem refs_plain {qs : List Addr} (ks : List Int) : ∀ s ∈ ks.map (refS qs), s.plain = true := fun s hs => by
  obtain ⟨q, _, rfl⟩ := List.mem_map.mp hs
  rfl
section
variable {X : Cx} {B : Base} {S S1 S2 S3 : Stt} {x y z : Slot} {a b e o : Expr} {es : List Expr} {pos apos : Pos} {D : FE} {rest : List Stmt} {k : Nat} {p : Addr} {qs : List Addr}
theorem lv_refs (k : Nat) {ks : List Int} (hk : S.cs[k]? = some (p, .lst (ks.map (refS qs)))) : Lv X.K B S (.v (.ref p)) (ks.map (refS qs)) := lv_cell k hk (refs_plain ks)
theorem lv_refsO {ks : List Int} : Lv X.K B S (.own (.lst (ks.map (refS qs)))) (ks.map (refS qs)) := lv_own (refs_plain ks)
/-- ks[i] -/
theorem je_ixRf {ks : List Int} {i n : Int} (ha : JE X B S a S1 x) (hb : JE X B S1 b S2 (.val i)) (hl : Lv X.K B S2 x (ks.map (refS qs))) (hi : gx ks i = some n) (hs : PlainIx b := by exact fun _ _ => rfl) : JE X B S (.Subscript a b pos) S2 (refS qs n) := je_ix ha hb hl (by rw [gx_map, hi]; rfl) hs
/-- ks.append(k) -/
theorem je_appR (k : Nat) {ks0 ks zs : List Int} {n : Int} (ho : JE X B S o S1 (.v (.ref p))) (hk0 : S1.cs[k]? = some (p, .lst (ks0.map (refS qs)))) (he : JE X B S1 e S2 (refS qs n)) (hk : S2.cs[k]? = some (p, .lst (ks.map (refS qs)))) (h : psh ks n = some zs)
    (hbase : attributeBase o "append" X.env (eval o X.env) = eval o X.env := by rfl) (hst : starEach [e] X.env = (false, eval e X.env) :: starEach [] X.env := by rfl)
    (hfew : ((backTo pos (starEach [e] X.env)).all (fun x => !x.1) && (backToKw pos (keywordEach [] X.env)).all (fun x => x.1.isSome) && decide (([e] : List Expr).length + ([] : List Keyword).length + (if ([] : List Keyword).isEmpty then 0 else 1) < 30)) = true := by rfl)
    (hline : (apos.endLine == pos.line) = true := by rfl) : JE X B S (.Call (.Attribute o "append" apos) [e] [] pos) ⟨S2.sl, S2.cs.set k (p, .lst (zs.map (refS qs)))⟩ (.v .non) := by
  unfold psh at h
  split at h
  · rename_i c
    cases h
    have g := je_append (pos := pos) (apos := apos) k ho hk0 he hk (by rw [List.length_map]; exact c) (hy := rfl) hbase hst hfew hline
    have e : ks.map (refS qs) ++ [refS qs n] = (ks ++ [n]).map (refS qs) := by rw [List.map_append]; rfl
    rw [e] at g
    exact g
  · cases h
/-- ks.pop(i) -/
theorem je_popR (k : Nat) {ks0 ks : List Int} {i : Int} {r : Int × List Int} (ho : JE X B S o S1 (.v (.ref p))) (hk0 : S1.cs[k]? = some (p, .lst (ks0.map (refS qs)))) (he : JE X B S1 e S2 (.val i)) (hk : S2.cs[k]? = some (p, .lst (ks.map (refS qs)))) (h : popG ks i = some r)
    (hbase : attributeBase o "pop" X.env (eval o X.env) = eval o X.env := by rfl) (hst : starEach [e] X.env = (false, eval e X.env) :: starEach [] X.env := by rfl)
    (hfew : ((backTo pos (starEach [e] X.env)).all (fun x => !x.1) && (backToKw pos (keywordEach [] X.env)).all (fun x => x.1.isSome) && decide (([e] : List Expr).length + ([] : List Keyword).length + (if ([] : List Keyword).isEmpty then 0 else 1) < 30)) = true := by rfl)
    (hline : (apos.endLine == pos.line) = true := by rfl) : JE X B S (.Call (.Attribute o "pop" apos) [e] [] pos) ⟨S2.sl, S2.cs.set k (p, .lst (r.2.map (refS qs)))⟩ (refS qs r.1) := by
  obtain ⟨j, hl, hj, ht, e⟩ := popG_of h
  have := je_popAt (s := refS qs r.1) k ho hk0 he hk (refs_plain ks) (by rw [List.length_map]; exact hj) (by rw [List.getElem?_map, ht]; rfl) (by rw [List.length_map]; exact hl) hbase hst hfew hline
  rw [e, map_erase]
  exact this
end
section
variable {X : Cx} {B : Base} {S S2 : Stt} {e : Expr} {x : Slot} {D : FE} {rest : List Stmt} {p : Addr} {f : List Addr → Cel}
theorem le_hideX (k : Nat) {qs : List Addr} (hk : S.cs[k]? = some (p, f qs)) (ng : f qs ≠ .gone) : Le B S ⟨S.sl, S.cs.set k (p, .ex f)⟩ := fun T tv σ H h => by
  obtain ⟨G, as, bs, z⟩ := h
  obtain ⟨l, o, m, r, rfl, hp, hc, reb⟩ := z.cel.at k hk ng
  exact ⟨G, as, _, z.tmp, (reb (Ex.refl G) fun _ _ => rfl).1 hp (.ex hc), z.slo, z.nod, z.fre, z.gro, z.new, z.sub, z.frm⟩
theorem js_openX (k : Nat) (hk : S.cs[k]? = some (p, .ex f)) (h : ∀ qs, JS X B ⟨S.sl, S.cs.set k (p, f qs)⟩ rest D) : JS X B S rest D := fun T tv σ H hs => by
  obtain ⟨G, as, bs, z⟩ := hs
  obtain ⟨l, o, m, r, rfl, hp, hc, reb⟩ := z.cel.at k hk (by nofun)
  cases hc with
  | ex hc => exact h _ _ _ _ _ ⟨G, as, _, z.tmp, (reb (Ex.refl G) fun _ _ => rfl).1 hp hc, z.slo, z.nod, z.fre, z.gro, z.new, z.sub, z.frm⟩
end
end J
namespace J
open PySem PySem.Spec PyProof.Rows L2
open PySem.W (Datum)
inductive Hap where
  | two (w : Str) (n : Int)
  | three (w : Str) (n p : Int)
  deriving DecidableEq
def Hap.d : Hap → PyData
  | .two w n => .tuple [.str w, .int n]
  | .three w n p => .tuple [.str w, .int n, .int p]
instance : Datum Hap where
  toD := Hap.d
  plain p := by cases p <;> simp only [Hap.d, PyData.plain, PyData.plainAll, Bool.and_self]
  eqv p q := by
    cases p <;> cases q <;> simp [Hap.d, PyData.eqv, PyData.eqvAll, Bool.and_true]
    all_goals rfl
  depth := 1
  depth_le p := by cases p <;> simp [Hap.d, PyData.depth, PyData.depthAll]
section
variable {X : Cx} {B : Base} {S S1 S2 S3 : Stt} {x y z : Slot} {a b e o : Expr} {es : List Expr} {pos apos : Pos} {D : FE} {rest : List Stmt} {p : Addr}
/-- the same data otherwise called -/
theorem je_same {α β : Type} [DecidableEq α] [Datum α] [DecidableEq β] [Datum β] {t : α} {r : β} (h : JE X B S e S1 (.val t)) (he : Datum.toD t = Datum.toD r := by rfl) : JE X B S e S1 (.val r) := fun T tv σ H Q hs q => h T tv σ H Q hs fun v H' g => q v H' (by
  obtain ⟨G, as, bs, z⟩ := g
  obtain ⟨a1, a2, rfl, g, z'⟩ := z.pop
  cases g with
  | val g => exact ⟨G, [] ++ a2, bs, .cons (.val (he ▸ g)) z'.tmp, z'.cel, z'.slo, z'.nod, z'.fre, z'.gro, z'.new, z'.sub, z'.frm⟩)
end
section
variable {α : Type} {f : α → Cel} {xs : List α} {qs : List Addr} {B : Base} {S : Stt} {p : Addr} {n : Int}
theorem ref_at {k : Nat} {x : α} (h0 : 0 ≤ n) (hx : gx xs n = some x) (hl : qs.length = xs.length) : qs[n.toNat]? = some (qs.getD n.toNat 0) ∧ xs[n.toNat]? = some x := by
  unfold gx at hx
  rw [if_pos h0] at hx
  have := (List.getElem?_eq_some_iff.mp hx).1
  refine ⟨?_, hx⟩
  rw [List.getD_eq_getElem?_getD, List.getElem?_eq_getElem (by omega)]
  rfl
theorem le_openRf (k : Nat) {x : α} (h0 : 0 ≤ n) (hx : gx xs n = some x) (hk : S.cs[k]? = some (p, mlA f qs xs)) : Le B S ⟨S.sl, S.cs.set k (p, mlAH f qs xs n.toNat (qs.getD n.toNat 0)) ++ [(qs.getD n.toNat 0, f x)]⟩ := fun T tv σ H h => by
  by_cases hl : qs.length = xs.length
  · obtain ⟨h1, h2⟩ := ref_at (k := k) h0 hx hl
    exact le_openA k n.toNat h1 h2 hk _ _ _ _ h
  · rw [mlA_no hl] at hk
    exact (bad_out hk h).elim
theorem mlAH_no {q : Addr} {n : Nat} (h : ¬ qs.length = xs.length) : mlAH f qs xs n q = badC := if_neg h
theorem le_closeRf (k k2 mm : Nat) {x0 x : α} (h0 : 0 ≤ n) (hx : gx xs n = some x0) (hk : S.cs[k]? = some (p, mlAH f qs xs n.toNat (qs.getD n.toNat 0))) (hk2 : S.cs[k2]? = some (qs.getD n.toNat 0, f x)) (hne : k ≠ k2) (ng : ∀ x, f x ≠ .gone) : Le B S ⟨S.sl, ((S.cs.set k (p, mlA f qs (xs.set n.toNat x))).set k2 (qs.getD n.toNat 0, .gone)).take mm⟩ := fun T tv σ H h => by
  by_cases hl : qs.length = xs.length
  · obtain ⟨h1, h2⟩ := ref_at (k := k) h0 hx hl
    exact le_closeA k k2 n.toNat mm h1 hk hk2 hne ng _ _ _ _ h
  · rw [mlAH_no hl] at hk
    exact (bad_out hk h).elim
end
def whileL {ι ρ : Type} (c : ι → Option Bool) (f : ι → Option (Lp ι ρ)) : Nat → ι → Option (Sum ι ρ)
  | 0, _ => none
  | n + 1, s => (c s).bind fun b => if b = true then (f s).bind fun
    | .nx s' => whileL c f n s'
    | .bk s' => some (.inl s')
    | .rt r => some (.inr r)
    else some (.inl s)
section
variable {X : Cx} {B : Base} {S : Stt} {D : FE} {rest : List Stmt} {pos : Pos}
theorem js_whileLE {π ι ρ : Type} {c : ι → Option Bool} {f : ι → Option (Lp ι ρ)} {Sf : π → ι → Stt} {Rr : ρ → V → Hp → Prop} {s0 : ι} {sE : Sum ι ρ} {n : Nat} {test : Expr} {body : List Stmt} (hw : whileL c f n s0 = some sE) (h0 : ∀ T tv σ H, Sta B S T σ tv H → ∃ q, Sta B (Sf q s0) T σ tv H)
    (hc : ∀ q s p, c s = some p → JT X B (Sf q s) test (Sf q s) p)
    (hb : ∀ q s (o : Lp ι ρ), c s = some true → f s = some o → JS X B (Sf q s) body { nx := fun T tv σ H => ∃ s', o = .nx s' ∧ ∃ q, Sta B (Sf q s') T σ tv H, rt := fun v H => ∃ r, o = .rt r ∧ Rr r v H, ct := fun T tv σ H => ∃ s', o = .nx s' ∧ ∃ q, Sta B (Sf q s') T σ tv H, bk := fun T tv σ H => ∃ s', o = .bk s' ∧ ∃ q, Sta B (Sf q s') T σ tv H })
    (hr : ∀ r, sE = .inr r → ∀ v H, Rr r v H → D.rt v H) (k : ∀ s, sE = .inl s → ∀ q, JS X B (Sf q s) rest D) (hp : PassesOwn (model X.prog X.w) X.A X.env X.xe := by exact PassesOwn.never) : JS X B S (.While test body [] pos :: rest) D := by
  refine js_step (ps_while hp pt0 pb0) fun T tv σ H h => ?_
  refine ⟨fun m σ H => ∃ s, whileL c f m s = some sE ∧ ∃ q, Sta B (Sf q s) T σ tv H, ⟨n, s0, hw, h0 _ _ _ _ h⟩, ?_⟩
  rintro m σ H ⟨s, hm, q, hs⟩
  cases m with
  | zero => cases hm
  | succ m =>
    refine bnd hm fun p hp1 hm1 => ?_
    refine hc q s p hp1 _ _ _ _ _ hs fun H1 h1 => ?_
    cases p with
    | true =>
      rw [if_pos rfl] at hm1
      refine bnd hm1 fun o hs' hm2 => ?_
      refine iteT ⟨fun σ' H' => ∃ s', o = .nx s' ∧ ∃ q, Sta B (Sf q s') T σ' tv H', ?_, ⟨fun pins s1 I => thn ((hb q s o hp1 hs' T tv σ H1 h1).run pins s1 I) fun fl s2 q => by
        cases fl with
        | next => exact q
        | cont => exact q
        | brk =>
          obtain ⟨σ', H', I', s', rfl, w, g⟩ := q
          cases hm2
          exact ⟨σ', H', I', k s' rfl w _ _ _ _ g⟩
        | ret u =>
          obtain ⟨v', σ', H', I', rv, r, rfl, g⟩ := q
          cases hm2
          exact ⟨v', σ', H', I', rv, hr r rfl _ _ g⟩⟩⟩
      rintro σ' H' ⟨s2, rfl, g⟩
      exact ⟨m, Nat.lt_succ_self m, s2, hm2, g⟩
    | false =>
      rw [if_neg (by decide)] at hm1
      cases hm1
      exact iteF (k s rfl q T tv σ H1 h1)
end
end J
namespace J
open PySem PySem.Spec PyProof.Rows L2
open PySem.W (Datum)
section
variable {X : Cx} {B : Base} {S S1 S2 S3 : Stt} {x y z : Slot} {a b c e o : Expr} {es : List Expr} {pos apos cpos : Pos} {D : FE} {rest : List Stmt} {kk lv : Nat} {tg : Expr} {p C : Addr} {fs : List (Str × Slot)} {f m : Str}
theorem je_mkC {γ : Type} {fr : FS γ} {fi : Addr} {fd : FuncData} {ps : List Str} {xs : List Slot} {c' : Cel} {n : Str} {q : Pos} (M : Mk X.K C fi) (F : FnOk X.prog X.w X.K X.mg X.base CX0 kk fi fd ps fr.sp) (hr : Room lv X.A) (hlv : kk + 1 ≤ lv) (hm : X.mg n = some (.ref C)) (hb : Binds X.K fd ps [])
    (ha : JA X B S (e :: es) S1 xs) (g : Addr → γ) (hpre : ∀ x, fr.pre (g x)) (hx : ∀ x, fr.args (g x) = .v (.ref x) :: xs) (hc : ∀ x, fr.cells (g x) = [(x, .ins C [])]) (hc' : ∀ x, fr.cells' (g x) = [(x, c')]) (hres : ∀ x, fr.res (g x) = .v .non) (ng : c' ≠ .gone) (hG : ∀ x G', Ex B.G G' → fr.preG (g x) G' := by exact fun _ _ _ => trivial) (hg : Gl X n := by rfl)
    (hdb : (n == ("__debug__" : Str)) = false := by decide) (hst : starEach (e :: es) X.env = (false, eval e X.env) :: starEach es X.env := by rfl) (hpl : (backTo pos (starEach es X.env)).any (·.1) = false := by rfl) : JE X B S (.Call (.Name n q) (e :: es) [] pos) S1 (.own c') := fun T tv σ H Q h q' =>
  pe1 (pe_make M F (hr.mono hlv) hg hm hb .nil pass0 pa0 hdb hst hpl) (ha _ _ _ _ _ h fun vs H1 hl h1 x dx hx1 hdx hne => by
    obtain ⟨G, as, bs, z⟩ := h1
    have h2 := (z.newG (x := .v (.ref dx)) (o := .own x) hdx .v).drop
    have hx2 : (upd H1 dx (.own x)) x = none := by rw [upd_ne (Ne.symm hne)]; exact hx1
    obtain ⟨G2, as2, bs2, z2⟩ := h2
    have h3 := z2.newO (c := .ins C []) (o := .ins C dx []) hx2 (.ins rfl .nil)
    obtain ⟨p', e', h4⟩ := h3.name
    cases e'
    rw [List.append_nil]
    have hk : (S1.cs ++ [(x, Cel.ins C [])])[S1.cs.length]? = some (x, .ins C []) := by rw [List.getElem?_append_right (Nat.le_refl _), Nat.sub_self]; rfl
    have s1 : ∀ c, (S1.cs ++ [(x, Cel.ins C [])]).set S1.cs.length (x, c) = S1.cs ++ [(x, c)] := fun c => by rw [List.set_append_right _ _ (Nat.le_refl _), Nat.sub_self]; rfl
    have s2 : ∀ c, (S1.cs ++ [(x, Cel.gone)]).set S1.cs.length (x, c) = S1.cs ++ [(x, c)] := fun c => by rw [List.set_append_right _ _ (Nat.le_refl _), Nat.sub_self]; rfl
    refine sp_of (xs := .v (.ref x) :: xs) (cs1 := S1.cs ++ [(x, .gone)]) (cs2 := S1.cs ++ [(x, c')]) fr (g x) (hpre x) (hG x) (hx x) (congrArg Nat.succ hl) ?_ ?_ h4 fun w H' h5 => ?_
    · rw [hc]
      exact .cons S1.cs.length hk (by nofun) (by rw [s1]; exact .nil)
    · rw [hc']
      exact .cons S1.cs.length (by rw [List.getElem?_append_right (Nat.le_refl _), Nat.sub_self]; rfl) (by rw [s2]; exact .nil)
    · rw [hres] at h5
      have ew := h5.exact
      subst ew
      refine ⟨rfl, ?_⟩
      have h6 : Sta B ⟨S1.sl, S1.cs ++ [(x, c')]⟩ (.v (.ref x) :: T) σ (.ref x :: tv) H' := h5.drop.push fun _ _ => .v
      have hk2 : (S1.cs ++ [(x, c')])[S1.cs.length]? = some (x, c') := by rw [List.getElem?_append_right (Nat.le_refl _), Nat.sub_self]; rfl
      have h7 := (h6.own S1.cs.length hk2 ng).take S1.cs.length
      have e7 : ((S1.cs ++ [(x, c')]).set S1.cs.length (x, .gone)).take S1.cs.length = S1.cs := by
        rw [List.set_append_right _ _ (Nat.le_refl _), List.take_left']
        rfl
      exact q' _ _ (by
        have := h7
        dsimp only at this
        rw [e7] at this
        exact this))
end
def gxN {α : Type} (xs : List α) (n : Int) : Option α := if 0 ≤ n then xs[n.toNat]? else none
theorem gxN_of {α : Type} {xs : List α} {n : Int} {x : α} (h : gxN xs n = some x) : 0 ≤ n ∧ gx xs n = some x := by
  unfold gxN at h
  split at h
  · rename_i c
    refine ⟨c, ?_⟩
    unfold gx
    rw [if_pos c]
    exact h
  · cases h
theorem refs_rng {qs : List Addr} {n : Nat} (h : qs.length = n) : (rng 0 n).map (refS qs) = qs.map fun q => Slot.v (.ref q) := by
  apply List.ext_getElem?
  intro i
  rw [List.getElem?_map, List.getElem?_map]
  by_cases c : i < n
  · have e : (rng 0 n)[i]? = some (0 + (i : Int)) := by
      unfold rng
      rw [List.getElem?_map, List.getElem?_range c]
      rfl
    rw [e, List.getElem?_eq_getElem (show i < qs.length by omega)]
    show some (refS qs (0 + (i : Int))) = some (Slot.v (.ref qs[i]))
    unfold refS
    rw [show (0 + (i : Int)).toNat = i by omega, List.getD_eq_getElem?_getD, List.getElem?_eq_getElem (show i < qs.length by omega)]
    rfl
  · rw [List.getElem?_eq_none (by rw [rng_len]; omega), List.getElem?_eq_none (by omega)]
    rfl
section
variable {X : Cx} {B : Base} {S S1 S2 S3 : Stt} {x y z : Slot} {a b e o : Expr} {es : List Expr} {pos apos : Pos} {tg : Expr} {p : Addr} {α : Type} {f : α → Cel} {xs : List α} {qs : List Addr}
theorem lv_mlRf (k : Nat) (hk : S.cs[k]? = some (p, mlA f qs xs)) : Lv X.K B S (.v (.ref p)) ((rng 0 xs.length).map (refS qs)) := fun {_ _ _ _ _ _ _ _} z => by
  by_cases hl : qs.length = xs.length
  · rw [refs_rng hl]
    exact lv_mlA k hk z
  · rw [mlA_no hl] at hk
    exact (bad_out hk ⟨_, _, _, z⟩).elim
theorem ji_mlRf (k : Nat) (ha : JE X B S e S1 (.v (.ref p))) (hk : S1.cs[k]? = some (p, mlA f qs xs)) : JI X B S tg e S1 [.v (.ref p)] ((rng 0 xs.length).map (refS qs)) (fun S => ∃ ys : List α, ys.length = xs.length ∧ S.cs[k]? = some (p, mlA f qs ys)) :=
  ji_listV ha (lv_mlRf k hk) fun S ⟨ys, hl, hk⟩ => hl ▸ lv_mlRf k hk
theorem ji_refs {ks : List Int} {ok : Stt → Prop} (ha : JE X B S e S1 x) (hl : Lv X.K B S1 x (ks.map (refS qs))) (hok : ∀ S, ok S → Lv X.K B S x (ks.map (refS qs))) : JI X B S tg e S1 [x] (ks.map (refS qs)) ok := ji_listV ha hl hok
theorem set_selfU {β : Type _} {xs : List β} {n : Nat} {x : β} (h : xs[n]? = some x) : xs.set n x = xs := by
  apply List.ext_getElem?
  intro i
  rw [List.getElem?_set]
  by_cases c : n = i
  · subst c
    rw [if_pos rfl, h]
    have := (List.getElem?_eq_some_iff.mp h).1
    rw [if_pos this]
  · rw [if_neg c]
/-- e read with the n-th thing open -/
theorem je_atRf {n : Int} (k m : Nat) {t : α} (hx : gxN xs n = some t) (hk : S.cs[k]? = some (p, mlA f qs xs)) (hm : S.cs.length = m) (ng : ∀ x, f x ≠ .gone)
    (h : JE X B ⟨S.sl, S.cs.set k (p, mlAH f qs xs n.toNat (qs.getD n.toNat 0)) ++ [(qs.getD n.toNat 0, f t)]⟩ e ⟨S.sl, S.cs.set k (p, mlAH f qs xs n.toNat (qs.getD n.toNat 0)) ++ [(qs.getD n.toNat 0, f t)]⟩ y) : JE X B S e S y := fun T tv σ H Q hs q => by
  obtain ⟨h0, hx2⟩ := gxN_of hx
  have hlt : k < S.cs.length := (List.getElem?_eq_some_iff.mp hk).1
  refine h _ _ _ _ _ (le_openRf k h0 hx2 hk _ _ _ _ hs) fun v H' g => q v H' ?_
  have c := le_closeRf (f := f) (xs := xs) (qs := qs) (B := B) (S := ⟨S.sl, S.cs.set k (p, mlAH f qs xs n.toNat (qs.getD n.toNat 0)) ++ [(qs.getD n.toNat 0, f t)]⟩) (p := p) k S.cs.length S.cs.length (x := t) h0 hx2
    (by rw [List.getElem?_append_left (by rw [List.length_set]; exact hlt), List.getElem?_set_self hlt])
    (by rw [List.getElem?_append_right (by rw [List.length_set]; exact Nat.le_refl _), List.length_set, Nat.sub_self]; rfl) (by omega) ng _ _ _ _ g
  have e1 : xs.set n.toNat t = xs := set_self (by unfold gxN at hx; rw [if_pos h0] at hx; exact hx)
  rw [e1] at c
  have e2 : ((((S.cs.set k (p, mlAH f qs xs n.toNat (qs.getD n.toNat 0)) ++ [(qs.getD n.toNat 0, f t)]).set k (p, mlA f qs xs)).set S.cs.length (qs.getD n.toNat 0, Cel.gone)).take S.cs.length) = S.cs := by
    rw [List.set_append_left _ _ (by rw [List.length_set]; exact hlt), List.set_set, set_selfU hk, List.set_append_right _ _ (Nat.le_refl _), List.take_left']
    rfl
  have c : Sta B ⟨S.sl, (((S.cs.set k (p, mlAH f qs xs n.toNat (qs.getD n.toNat 0)) ++ [(qs.getD n.toNat 0, f t)]).set k (p, mlA f qs xs)).set S.cs.length (qs.getD n.toNat 0, Cel.gone)).take S.cs.length⟩ (y :: T) σ (v :: tv) H' := c
  rw [e2] at c
  exact c
end
section
variable {X : Cx} {B : Base} {S S2 : Stt} {e : Expr}
theorem jt_open {t : Bool} (k j : Nat) {p : Addr} {c d : Cel} (hk : S.cs[k]? = some (p, c)) (hj : c.nth j = some (.own d)) (h : ∀ q, JT X B ⟨S.sl, S.cs.set k (p, c.sub j (.v (.ref q))) ++ [(q, d)]⟩ e S2 t) : JT X B S e S2 t := fun T tv σ H Q hs qq => by
  obtain ⟨G, as, bs, z⟩ := hs
  have hg : c ≠ .gone := by intro e; subst e; cases hj
  obtain ⟨l, o, m, r, rfl, hp, hc, reb⟩ := z.cel.at k hk hg
  obtain ⟨a1, u, m1, a2, rfl, hs1, reb2⟩ := hc.part j hj
  cases hs1 with
  | @own _ q od mq hq hd =>
    have c2 := (reb (Ex.refl G) fun _ _ => rfl).1 hp (reb2 (.v : SlI G H (.v (.ref q)) (.ref q) []))
    have c3 := c2.app (.cons hq hd .nil)
    have pm : (l ++ p :: (a1 ++ [] ++ a2) ++ r ++ (q :: (mq ++ []))).Perm (l ++ p :: (a1 ++ q :: mq ++ a2) ++ r) := by
      simp only [List.append_nil, List.append_assoc, List.cons_append]
      refine List.Perm.append_left l (List.Perm.cons p (List.Perm.append_left a1 ?_))
      have e1 : ((a2 ++ r) ++ (q :: mq)).Perm ((q :: mq) ++ (a2 ++ r)) := List.perm_append_comm
      simpa only [List.append_assoc, List.cons_append] using e1
    have pm2 := List.Perm.append_left as pm
    exact h q T tv σ H Q ⟨G, as, _, z.tmp, c3, z.slo, pm2.nodup_iff.mpr z.nod, fun a ha => z.fre a (pm2.mem_iff.mp ha), z.gro, z.new, z.sub, z.frm⟩ qq
end
section
variable {X : Cx} {B : Base} {S S1 : Stt} {a : Expr} {x : Slot} {pos : Pos} {k : Nat} {qs : List Addr}
theorem jt_neNilR {ks : List Int} {p3 : Pos} (hr : Room k X.A) (ha : JE X B S a S1 x) (hl : Lv X.K B S1 x (ks.map (refS qs))) : JT X B S (.Compare a [.NotEq] [.List [] p3] pos) S1 (decide (ks ≠ [])) := by
  have h := jt_neNil (p3 := p3) (pos := pos) hr ha hl
  have e : decide ((ks.map (refS qs)).length ≠ 0) = decide (ks ≠ []) := decide_eq_decide.mpr (by rw [List.length_map]; exact ⟨fun h e => h (by rw [e]; rfl), fun h e => h (List.length_eq_zero_iff.mp e)⟩)
  rw [e] at h
  exact h
end
section
variable {X : Cx} {B : Base} {S S1 : Stt} {e : Expr} {pos : Pos} {β : Type} [DecidableEq β] [Datum β] {m : List (Int × β)}
/-- len of a new dict -/
theorem je_dlenO {q : Pos} (hm : X.mg "len" = none) (ha : JE X B S e S1 (.own (.dk (dks m) (dss m)))) (hg : Gl X "len" := by rfl) (hst : starEach [e] X.env = (false, eval e X.env) :: starEach [] X.env := by rfl) : JE X B S (.Call (.Name "len" q) [e] [] pos) S1 (.val (m.length : Int)) :=
  je_callB call_lenD hm (by decide +kernel) (ja_cons ha ja_nil hst) (oc1 fun T tv σ v H Q hs q => by
    obtain ⟨G, as, bs, z⟩ := hs
    obtain ⟨a1, a2, rfl, g, z'⟩ := z.pop
    cases g with
    | @own _ p o as' hp hc =>
      cases hc with
      | @dk _ _ gs _ hks hss =>
        have hl : gs.length = m.length := by
          have := congrArg List.length hks
          rw [List.length_map, List.length_map] at this
          exact this.symm
        exact ⟨p, gs, rfl, hp, hl ▸ q _ _ (z'.push (sl_int _))⟩) hg (by decide) (by decide) hst
end
section
variable {X : Cx} {B : Base} {S S1 S2 : Stt} {a b : Expr} {es : List Expr} {x y : Slot} {pos : Pos} {qs : List Addr}
theorem je_lstRf {ks : List Int} (ha : JA X B S es S1 (ks.map (refS qs))) (hl : ks.length ≤ 1000 := by exact Nat.le_of_ble_eq_true rfl) : JE X B S (.List es pos) S1 (.own (.lst (ks.map (refS qs)))) := je_lst ha (by rw [List.length_map]; exact hl)
theorem je_catRf {ks js zs : List Int} (ha : JE X B S a S1 x) (hb : JE X B S1 b S2 y) (h1 : Lh B S2 x (ks.map (refS qs))) (h2 : Lh B S2 y (js.map (refS qs))) (h : catG ks js = some zs) : JE X B S (.BinOp a .Add b pos) S2 (.own (.lst (zs.map (refS qs)))) := by
  unfold catG at h
  split at h
  · rename_i c
    cases h
    rw [List.map_append]
    exact je_cat ha hb h1 h2 (by rw [List.length_map, List.length_map]; exact c)
  · cases h
end
section
variable {X : Cx} {B : Base} {S : Stt} {e : Expr} {y : Slot}
/-- e read with a part open -/
theorem je_atPart (k j : Nat) {p : Addr} {c d : Cel} (hk : S.cs[k]? = some (p, c)) (hj : c.nth j = some (.own d)) (hg : d ≠ .gone) (hn : ∀ q : Addr, (c.sub j (.v (.ref q))).nth j = some (.v (.ref q))) (hs : ∀ q : Addr, (c.sub j (.v (.ref q))).sub j (.own d) = c)
    (h : ∀ q, JE X B ⟨S.sl, S.cs.set k (p, c.sub j (.v (.ref q))) ++ [(q, d)]⟩ e ⟨S.sl, S.cs.set k (p, c.sub j (.v (.ref q))) ++ [(q, d)]⟩ y) : JE X B S e S y := by
  refine je_open k j hk hj fun q => ?_
  have hlt : k < S.cs.length := (List.getElem?_eq_some_iff.mp hk).1
  have l := le_fold (B := B) (S := ⟨S.sl, S.cs.set k (p, c.sub j (.v (.ref q))) ++ [(q, d)]⟩) k S.cs.length j
    (by rw [List.getElem?_append_left (by rw [List.length_set]; exact hlt), List.getElem?_set_self hlt]) (hn q)
    (by rw [List.getElem?_append_right (by rw [List.length_set]; exact Nat.le_refl _), List.length_set, Nat.sub_self]; rfl) (by omega) hg (fun e => by have := hn q; rw [e] at this; cases this)
  have l2 := l.trans (le_take S.cs.length)
  have e2 : ((((S.cs.set k (p, c.sub j (.v (.ref q))) ++ [(q, d)]).set k (p, (c.sub j (.v (.ref q))).sub j (.own d))).set S.cs.length (q, Cel.gone)).take S.cs.length) = S.cs := by
    rw [hs q, List.set_append_left _ _ (by rw [List.length_set]; exact hlt), List.set_set, set_selfU hk, List.set_append_right _ _ (Nat.le_refl _), List.take_left']
    rfl
  have l3 : Le B ⟨S.sl, S.cs.set k (p, c.sub j (.v (.ref q))) ++ [(q, d)]⟩ ⟨S.sl, ((((S.cs.set k (p, c.sub j (.v (.ref q))) ++ [(q, d)]).set k (p, (c.sub j (.v (.ref q))).sub j (.own d))).set S.cs.length (q, Cel.gone)).take S.cs.length)⟩ := l2
  rw [e2] at l3
  exact je_le (h q) l3
end
def okW (w k1 k2 : Str) : Option Unit := if w = k1 ∨ w = k2 then some () else none
section
variable {X : Cx} {B : Base} {S S1 S2 : Stt} {o e : Expr} {pos : Pos} {D : FE} {rest : List Stmt} {kk : Nat} {p : Addr}
/-- one of two counts, by a text -/
theorem js_daug2 (k : Nat) {i : Expr} {tpos : Pos} {w k1 k2 : Str} {a b n : Int} {u : Unit} (hw : okW w k1 k2 = some u) (hne : k1 ≠ k2) (hr : Room kk X.A) (ho : JE X B S o S1 (.v (.ref p))) (hi : JE X B S1 i S1 (.val w)) (hk : S1.cs[k]? = some (p, .dk [Sum.inr k1, Sum.inr k2] [.val a, .val b])) (he : JE X B S1 e S1 (.val n))
    (kx : JS X B ⟨S1.sl, S1.cs.set k (p, .dk [Sum.inr k1, Sum.inr k2] [.val (if w = k1 then a + n else a), .val (if w = k1 then b else b + n)])⟩ rest D)
    (ha : ∀ ov iv new, augStore i ov iv new = (do holding [new, ov, iv] (setItem ov iv new); release [new, ov, iv] []; pure .next) := by intros; rfl) : JS X B S (.AugAssign (.Subscript o i tpos) .Add e pos :: rest) D := by
  have nd : ([Sum.inr k1, Sum.inr k2] : List Key).Nodup := by
    refine List.nodup_cons.mpr ⟨fun h => ?_, List.nodup_cons.mpr ⟨List.not_mem_nil, List.nodup_nil⟩⟩
    exact hne (Sum.inr.inj (List.mem_singleton.mp h))
  unfold okW at hw
  split at hw
  · rename_i c
    by_cases d : w = k1
    · subst d
      rw [if_pos rfl, if_pos rfl] at kx
      exact js_daugA (f := fun x y => x + y) k 0 L2.in_add hr ho hi hk (by rw [List.findIdx?_cons, if_pos (decide_eq_true rfl)]) rfl he hk kx nd (Nat.le_of_ble_eq_true rfl) ha
    · have d2 : w = k2 := c.resolve_left d
      subst d2
      rw [if_neg d, if_neg d] at kx
      exact js_daugA (f := fun x y => x + y) k 1 L2.in_add hr ho hi hk (by rw [List.findIdx?_cons, if_neg (fun h => hne (Sum.inr.inj (of_decide_eq_true h))), List.findIdx?_cons, if_pos (decide_eq_true rfl)]; rfl) rfl he hk kx nd (Nat.le_of_ble_eq_true rfl) ha
  · cases hw
end
end J
namespace J
open PySem PySem.Spec PyProof.Rows L2
open PySem.W (Datum)
def Hap.l : Hap → List PyData
  | .two w n => [.str w, .int n]
  | .three w n p => [.str w, .int n, .int p]
def Hap.wd : Hap → Str
  | .two w _ => w
  | .three w _ _ => w
def Hap.nm : Hap → Int
  | .two _ n => n
  | .three _ n _ => n
def Hap.pg : Hap → Option Int
  | .two _ _ => none
  | .three _ _ p => some p
def Hap.len : Hap → Int
  | .two _ _ => 2
  | .three _ _ _ => 3
theorem hap_toD (t : Hap) : Datum.toD t = .tuple t.l := by cases t <;> rfl
section
variable {X : Cx} {B : Base} {S S1 S2 S3 : Stt} {a b e : Expr} {pos : Pos} {t : Hap}
theorem je_hap0 (ha : JE X B S a S1 (.val t)) (hb : JE X B S1 b S2 (.val (0 : Int))) (hs : PlainIx b := by exact fun _ _ => rfl) : JE X B S (.Subscript a b pos) S2 (.val t.wd) := je_tpix ha hb (hap_toD t) (by cases t <;> rfl) hs
theorem je_hap1 (ha : JE X B S a S1 (.val t)) (hb : JE X B S1 b S2 (.val (1 : Int))) (hs : PlainIx b := by exact fun _ _ => rfl) : JE X B S (.Subscript a b pos) S2 (.val t.nm) := je_tpix ha hb (hap_toD t) (by cases t <;> rfl) hs
theorem je_hap2 {p : Int} (hp : t.pg = some p) (ha : JE X B S a S1 (.val t)) (hb : JE X B S1 b S2 (.val (2 : Int))) (hs : PlainIx b := by exact fun _ _ => rfl) : JE X B S (.Subscript a b pos) S2 (.val p) := je_tpix ha hb (hap_toD t) (by
  cases t with
  | two => cases hp
  | three => cases hp; rfl) hs
theorem je_hapLen {q : Pos} (hm : X.mg "len" = none) (ha : JE X B S e S1 (.val t)) (hg : Gl X "len" := by rfl) (hst : starEach [e] X.env = (false, eval e X.env) :: starEach [] X.env := by rfl) : JE X B S (.Call (.Name "len" q) [e] [] pos) S1 (.val t.len) := je_lenT hm ha (hap_toD t) (by cases t <;> rfl) hg hst
end
section
variable {G H : Hp}
theorem fld_own {f : Str} {d : Cel} : ∀ {fs : List (Str × Slot)} {gs : List (Str × V)} {as : List Addr}, fs.map (·.1) = gs.map (·.1) → SsI G H (fs.map (·.2)) (gs.map (·.2)) as → fs.lookup f = some (.own d) → ∃ u a1 m a2, gs.lookup f = some u ∧ as = a1 ++ m ++ a2 ∧ SlI G H (.own d) u m
  | [], [], _, _, _, h => by cases h
  | [], _ :: _, _, h, _, _ => by simp at h
  | _ :: _, [], _, h, _, _ => by simp at h
  | (g, x) :: fs, (g', v) :: gs, as, h, hs, hl => by
    have h1 : g = g' := (List.cons.inj h).1
    subst h1
    cases hs with
    | @cons _ _ b1 _ _ b2 s1 hs =>
      rw [List.lookup_cons] at hl ⊢
      cases e : f == g with
      | true =>
        rw [e] at hl
        cases hl
        exact ⟨v, [], b1, b2, rfl, rfl, s1⟩
      | false =>
        rw [e] at hl
        obtain ⟨u, a1, m, a2, e1, rfl, e3⟩ := fld_own (List.cons.inj h).2 hs hl
        exact ⟨u, b1 ++ a1, m, a2, e1, by simp only [List.append_assoc], e3⟩
end
section
variable {X : Cx} {B : Base} {S S1 S2 S3 : Stt} {x y z : Slot} {a b e o tg : Expr} {es : List Expr} {pos apos : Pos} {D : FE} {rest : List Stmt} {C p : Addr} {f : Str}
theorem je_partX {fs : List Addr → List (Str × Slot)} {d : List Addr → Cel} (cl : Cls X.K C) (na : NoAttr X.K C f) (ho : JE X B S o S1 (.own (.ex fun qs => .ins C (fs qs)))) (hl : ∀ qs, (fs qs).lookup f = some (.own (d qs))) (hb : attributeBase o f X.env (eval o X.env) = eval o X.env := by rfl) : JE X B S (.Attribute o f pos) S1 (.own (.ex d)) := fun T tv σ H Q h q =>
  pe1 (pe_fld pe0 hb) (ho _ _ _ _ _ h fun v1 H1 h1 => by
    obtain ⟨G, as, bs, z⟩ := h1
    obtain ⟨a1, a2, rfl, g, z'⟩ := z.pop
    cases g with
    | @own _ p oo m hp hc =>
      cases hc with
      | @ex _ qs _ _ hc =>
        cases hc with
        | @ins _ dx _ gs _ hks hss =>
          obtain ⟨u, b1, mm, b2, e1, rfl, e3⟩ := fld_own hks hss (hl qs)
          have e4 : SlI G H1 (.own (.ex d)) u mm := by
            cases e3 with
            | own hq hd => exact .own hq (.ex hd)
          have sub : (mm ++ a2 ++ bs).Sublist ((p :: (b1 ++ mm ++ b2)) ++ a2 ++ bs) := by
            refine List.Sublist.append_right (List.Sublist.append_right ?_ _) _
            refine List.Sublist.cons _ ?_
            exact (List.sublist_append_right b1 mm).trans (List.sublist_append_left _ _)
          exact ⟨p, C, dx, gs, u, rfl, hp, cl, na, e1, q _ _ ⟨G, mm ++ a2, bs, .cons e4 z'.tmp, z'.cel, z'.slo, sub.nodup z.nod, fun a ha => z.fre a (sub.mem ha), z'.gro, z'.new, z'.sub, z'.frm⟩⟩)
theorem je_unex {c : Cel} (h : JE X B S e S1 (.own (.ex fun _ => c))) : JE X B S e S1 (.own c) := fun T tv σ H Q hs q => h _ _ _ _ _ hs fun v H1 h1 => q v H1 (by
  obtain ⟨G, as, bs, z⟩ := h1
  obtain ⟨a1, a2, rfl, g, z'⟩ := z.pop
  cases g with
  | own hp hc =>
    cases hc with
    | ex hc => exact ⟨G, _, bs, .cons (.own hp hc) z'.tmp, z.cel, z.slo, z.nod, z.fre, z.gro, z.new, z.sub, z.frm⟩)
theorem je_unexM {α : Type} {f : α → Cel} {xs : List α} (h : JE X B S e S1 (.own (.ex fun qs => mlA f qs xs))) : JE X B S e S1 (.own (mlC f xs)) := fun T tv σ H Q hs q => h _ _ _ _ _ hs fun v H1 h1 => q v H1 (by
  obtain ⟨G, as, bs, z⟩ := h1
  obtain ⟨a1, a2, rfl, g, z'⟩ := z.pop
  cases g with
  | @own _ p o m hp hc =>
    cases hc with
    | @ex _ qs _ _ hc =>
      have hc : CeI G H1 (mlA f qs xs) o m := hc
      by_cases hl : qs.length = xs.length
      · rw [mlA_ok hl] at hc
        cases hc with
        | lst hs => exact ⟨G, _, bs, .cons (.own hp (.lst (ss_hide hl hs).1)) z'.tmp, z.cel, z.slo, z.nod, z.fre, z.gro, z.new, z.sub, z.frm⟩
      · rw [mlA_no hl] at hc
        cases hc with
        | lst hs =>
          cases hs with
          | cons c _ =>
            cases c with
            | say _ c => exact c.elim)
theorem wk_list {p : Addr} {its : List Slot} {ok : Stt → Prop} (hok : ∀ S, ok S → Lv X.K B S (.v (.ref p)) its) : Wk X B [.v (.ref p)] [.ref p] its ok (Itl X.K p) :=
  ⟨fun S T σ tv H i s hS hi h => by
    obtain ⟨G, as, bs, z⟩ := id h
    obtain ⟨p', vs', e, hr', hss'⟩ := hok S hS z
    cases e
    obtain ⟨u, hu, su⟩ := hss'.get i hi
    refine ⟨⟨vs', u, hr', hu⟩, fun v H' hy => ?_⟩
    obtain ⟨rfl, hy⟩ := hy
    have e := hy vs' (hr')
    rw [hu] at e
    cases e
    exact z.push su, fun S T σ tv H hS h => by
    obtain ⟨G, as, bs, z⟩ := id h
    obtain ⟨p', vs', e, hr', hss'⟩ := hok S hS z
    cases e
    exact ⟨vs', hr', Nat.le_of_eq hss'.len.symm⟩⟩
theorem je_lcP {ι α β : Type} {f9 : α → Cel} {xs : List α} {f : ι → Addr × Nat → Option (Option β × ι)} {el : β → Slot} {Sf : Addr → List Addr → ι → Stt} {Sb : Addr → List Addr → ι → Addr × Nat → Stt} {s0 sE : ι} {ys : List β} {iter elt : Expr} {ifs : List Expr} {scope : Scope} {own : List (Str × Nat)} {ws : List Nat}
    (ha : JE X B S iter S1 (.own (mlC f9 xs))) (hf : ∀ qs : List Addr, qs.length = xs.length → cmpM f (idxs qs) s0 = some (ys, sE)) (hlen : xs.length ≤ 16777216) (hN : X.N.Nodup) (hbk : BlkOk X.N X.env.scope scope own)
    (h0 : ∀ p qs, Le B ⟨S1.sl, S1.cs ++ [(p, mlA f9 qs xs)]⟩ (Sf p qs s0)) (hok : ∀ p qs s, ∃ ys : List α, (Sf p qs s).cs[S1.cs.length]? = some (p, mlA f9 qs ys)) (hv : ∀ p qs s, AnyAt (Sf p qs s).sl (own.map (·.2))) (hws : ∀ i ∈ ws, i ∈ own.map (·.2))
    (hg : ∀ p qs s x, Blk X scope fun Y => JG Y B (Sf p qs s) tg (refI x) (Sb p qs s x) ws)
    (hb : ∀ p qs s x o s', qs.length = xs.length → x ∈ idxs qs → f s x = some (o, s') → ∃ (t : Bool) (St : Stt), (Blk X scope fun Y => JTs Y B (Sb p qs s x) ifs St t) ∧ (t = true → ∃ y Se, o = some y ∧ (Blk X scope fun Y => JE Y B St elt Se (el y)) ∧ Le B Se (Sf p qs s')) ∧ (t = false → o = none ∧ Le B St (Sf p qs s')))
    (hE : ∀ p qs, Le B (Sf p qs sE) S2)
    (hc : X.calm = true := by rfl) (hs : ∀ x, foldedSetIterable iter X.env x = pure x := by intro _; rfl) : JE X B S (.ListComp elt [⟨tg, iter, ifs, 0⟩] scope pos) S2 (.own (.lst (ys.map el))) := fun T tv σ H Q h q =>
  pe1 (pe_lc (g := (fun v σ H Q => Blk X scope fun Y => tgOf Y tg v σ H Q)) (tt := (fun σ H Q => Blk X scope fun Y => ttsOf Y ifs σ H Q)) (te := (fun σ H Q => Blk X scope fun Y => teOf Y elt σ H Q)) hc hN pi0 hbk (fun s H C cl fp => ⟨fun pins s' σ H' v u Q I r h => (h s H C cl fp).run pins s' u I r⟩) (fun s H C cl fp => ⟨fun pins s' σ H' Q I h => let ⟨_, hp, h'⟩ := h s H C cl fp; hp.run pins s' σ H' Q I h'⟩) (fun s H C cl fp => ⟨fun pins s' σ H' Q I h => (h s H C cl fp).run pins s' I⟩) hs) (pi1 (pi_list pe0) (ha _ _ _ _ _ h fun v H1 h1 => by
    obtain ⟨p, rfl, h2⟩ := h1.name
    have hk : (S1.cs ++ [(p, mlC f9 xs)])[S1.cs.length]? = some (p, mlC f9 xs) := by rw [List.getElem?_append_right (Nat.le_refl _), Nat.sub_self]; rfl
    obtain ⟨qs, hl, h3⟩ := h2.exposeM (S := ⟨S1.sl, S1.cs ++ [(p, mlC f9 xs)]⟩) S1.cs.length hk
    have e3 : (S1.cs ++ [(p, mlC f9 xs)]).set S1.cs.length (p, mlA f9 qs xs) = S1.cs ++ [(p, mlA f9 qs xs)] := by rw [List.set_append_right _ _ (Nat.le_refl _), Nat.sub_self]; rfl
    have h3 : Sta B ⟨S1.sl, (S1.cs ++ [(p, mlC f9 xs)]).set S1.cs.length (p, mlA f9 qs xs)⟩ (.v (.ref p) :: T) σ (.ref p :: tv) H1 := h3
    rw [e3] at h3
    have hk3 : (S1.cs ++ [(p, mlA f9 qs xs)])[S1.cs.length]? = some (p, mlA f9 qs xs) := by rw [List.getElem?_append_right (Nat.le_refl _), Nat.sub_self]; rfl
    obtain ⟨G, as, bs, z⟩ := id h3
    obtain ⟨p', vs, e, hr, _⟩ := lv_mlA (X := X) (S := ⟨S1.sl, S1.cs ++ [(p, mlA f9 qs xs)]⟩) S1.cs.length hk3 z
    cases e
    exact ⟨p, rfl, ⟨vs, hr⟩, lc_tG (ti := fun _ _ R => R (Itl X.K p) H1) (σ := σ) (H := H1) (S1 := ⟨S1.sl, S1.cs ++ [(p, mlA f9 qs xs)]⟩) (zs := [.v (.ref p)]) (ei := refI) (ok := fun S => ∃ ys : List α, S.cs[S1.cs.length]? = some (p, mlA f9 qs ys)) (hf qs hl) (by unfold idxs; rw [List.length_zipIdx, hl]; exact hlen) hN hbk
      (fun R k => k (Itl X.K p) [.ref p] H1 rfl h3 (wk_list fun S ⟨ys, hk⟩ => by rw [idxs_ref]; exact lv_mlA S1.cs.length hk)) (h0 p qs) (hok p qs) (hv p qs) hws (hg p qs) (fun s x o s' => hb p qs s x o s' hl) fun v H' g => q v H' (hE p qs _ _ _ _ g)⟩))
end
section
end
section
variable {X : Cx} {B : Base} {S S1 S2 S3 : Stt} {o : Expr} {pos : Pos} {p q : Addr} {α : Type} {f : α → Cel} {xs ys : List α} {qs : List Addr} {n : Nat}
theorem le_closeI0 (k k2 n mm : Nat) {x : α} (hq : qs[n]? = some q) (hx : gx xs ((n : Nat) : Int) = some x) (hk : S.cs[k]? = some (p, mlAH f qs xs n q)) (hk2 : S.cs[k2]? = some (q, f x)) (hne : k ≠ k2) (ng : ∀ x, f x ≠ .gone) : Le B S ⟨S.sl, ((S.cs.set k (p, mlA f qs xs)).set k2 (q, .gone)).take mm⟩ := by
  have h := le_closeA (B := B) (S := S) k k2 n mm hq hk hk2 hne ng
  rw [set_self (gx_natI hx)] at h
  exact h
end
section
end
end J
namespace Gk31
open PySem PySem.Spec PyProof.Rows L2
def m_law_bag_b0 (s2 : ((List Int) × Int)) (x4 : Int) : Option ((List Int) × Int) :=
  ((if (decide (x4 < 0)) = true then ( some (3 - x4)) else ( some x4) : Option Int)).bind fun s9 => (some (((((s2.2 * 1000003) + s9) + 1) % (2305843009213693952 - 1)) : Int)).bind fun x11 => ((if (decide (1000000000000000000 ≤ s9)) = true then ((J.psh s2.1 (s9 - 1000000000000000000)).bind fun x14 => some x14) else ( some s2.1) : Option (List Int))).bind fun s12 => some (s12, x11)
def m_law_bag (a0 : List Int) : Option ((List Int) × (Int × Int)) :=
  (J.forM (m_law_bag_b0) a0 (([] : List Int), 5)).bind fun s15 => some (s15.1, (s15.2, 0))
def m_law_draw_t0 (s2 : (List Int)) : Option Bool :=
  (J.andM (decide (s2 ≠ ([] : List Int))) ((J.gx s2 0).bind fun x4 => some (decide (x4 = 0)))).bind fun x5 => some x5
def m_law_draw_w1 (s2 : (List Int)) : Option (List Int) :=
  (J.popG s2 0).bind fun x6 => some x6.2
def m_law_draw (a1 : Int) (a0_0 : (List Int)) (a0_1 : Int) (a0_2 : Int) : Option (Int × ((List Int) × Int)) :=
  (J.whileM (m_law_draw_t0) (m_law_draw_w1) 1000000 a0_0).bind fun s7 => if (decide (s7 ≠ ([] : List Int))) = true then ((J.gx s7 0).bind fun x8 => (J.modG x8 a1).bind fun x9 => (J.gx s7 0).bind fun x10 => (J.divG x10 a1).bind fun x11 => (J.stx s7 0 x11).bind fun x12 => some (x9, (x12, (a0_2 + 1)))) else ( (J.powG ((a0_2 + 1) + 11) 3).bind fun x13 => (J.mulG (a0_1 + 40961) x13).bind fun x14 => (some (((x14 + (7907 * (a0_2 + 1))) % (2305843009213693952 - 1)) : Int)).bind fun x15 => (J.powG x15 3).bind fun x16 => (J.modG ((x16 % (1000000000000000000 + 9)) / 64) a1).bind fun x17 => some (x17, (s7, (a0_2 + 1))))
def m_law_pages (a0_0 : (List Int)) (a0_1 : Int) (a0_2 : Int) : Option ((List Int) × ((List Int) × Int)) :=
  (m_law_draw 80 a0_0 a0_1 a0_2).bind fun x1 => (some (([0, 1, 2, 9, 10, 100, (1000000000 - 1), 1000000000, (11 + x1.1)] : List Int) : (List Int))).bind fun x2 => (m_law_draw 9 x1.2.1 a0_1 x1.2.2).bind fun x3 => (J.catG (J.slc x2 (some x3.1) none) (J.slc x2 none (some x3.1))).bind fun x4 => some (x4, (x3.2.1, x3.2.2))
def m_law_line_c0 (x6 : (Int × ((List Int) × Int))) (x7 : (Int × ((List Int) × Int))) (s10 : Unit) (x12 : Int) : Option (Option Int × Unit) :=
  (J.mulG (1 + x7.1) x12).bind fun x13 => some (some (x6.1 + x13), ())
def m_law_line_b1 (a0_1 : Int) (s4 : ((List Int) × (Int × ((List Int) × Int)))) (x15 : (Int × ((List Int) × Int))) (s19 : ((List Int) × (Int × (List Int)))) (x21 : Int) : Option ((List Int) × (Int × (List Int))) :=
  (m_law_draw s4.2.2.2 s19.1 a0_1 s19.2.1).bind fun x26 => (m_law_draw s4.2.2.2 x26.2.1 a0_1 x26.2.2).bind fun x27 => (J.modG x21 s4.2.2.2).bind fun x28 => (J.modG (x21 / 3) s4.2.2.2).bind fun x29 => (J.gx ([x26.1, x27.1, x28, x29] : List Int) x15.1).bind fun x30 => (m_law_draw 8 x27.2.1 a0_1 x27.2.2).bind fun x31 => ((if (decide (x31.1 = 0)) = true then ((m_law_draw ((s4.2.2.1).length : Int) x31.2.1 a0_1 x31.2.2).bind fun x34 => some (x34.2.1, (x34.2.2, x34.1))) else ( some (x31.2.1, (x31.2.2, x30))) : Option ((List Int) × (Int × Int)))).bind fun s32 => (J.gx s4.2.2.1 s32.2.2).bind fun x35 => (J.psh s19.2.2 x35).bind fun x36 => some (s32.1, (s32.2.1, x36))
def m_law_line (a1 : Int) (a0_0 : (List Int)) (a0_1 : Int) (a0_2 : Int) : Option ((List Int) × ((List Int) × Int)) :=
  (m_law_pages a0_0 a0_1 a0_2).bind fun x1 => (m_law_draw 9 x1.2.1 a0_1 x1.2.2).bind fun x2 => (m_law_draw 4 x2.2.1 a0_1 x2.2.2).bind fun x3 => ((if (decide (x3.1 = 3)) = true then ((m_law_draw 100000000 x3.2.1 a0_1 x3.2.2).bind fun x6 => (m_law_draw 1000000 x6.2.1 a0_1 x6.2.2).bind fun x7 => (m_law_draw 71 x7.2.1 a0_1 x7.2.2).bind fun x8 => (J.rngG (10 + x8.1)).bind fun x9 => (J.lcM (m_law_line_c0 x6 x7) x9 ()).bind fun x14 => some (x8.2.1, (x8.2.2, (x14.1, ((x14.1).length : Int))))) else ( some (x3.2.1, (x3.2.2, (x1.1, (1 + x2.1))))) : Option ((List Int) × (Int × ((List Int) × Int))))).bind fun s4 => (m_law_draw 4 s4.1 a0_1 s4.2.1).bind fun x15 => (m_law_draw (a1 + 1) x15.2.1 a0_1 x15.2.2).bind fun x17 => (J.rngG x17.1).bind fun x18 => (J.forM (m_law_line_b1 a0_1 s4 x15) x18 (x17.2.1, (x17.2.2, ([] : List Int)))).bind fun s37 => some (s37.2.2, (s37.1, s37.2.1))
def m_law_lot_b0 (a0_1 : Int) (x4 : Int) (s10 : ((List Int) × (Int × (List ((List Int) × Int))))) (x12 : Int) : Option ((List Int) × (Int × (List ((List Int) × Int)))) :=
  (m_law_draw 8 s10.1 a0_1 s10.2.1).bind fun x17 => (J.gx ([5, 9, 14, 14, 30, 30, 60, 200] : List Int) x17.1).bind fun x18 => (m_law_line x18 x17.2.1 a0_1 x17.2.2).bind fun x19 => (m_law_draw 4 x19.2.1 a0_1 x19.2.2).bind fun x20 => (J.gx ([3, 6, 12, 60] : List Int) x20.1).bind fun x21 => (m_law_draw x21 x20.2.1 a0_1 x20.2.2).bind fun x22 => ((if (decide (0 < x4)) = true then ((m_law_draw 2 x22.2.1 a0_1 x22.2.2).bind fun x25 => some (x25.2.1, (x25.2.2, (x4 + x25.1)))) else ( some (x22.2.1, (x22.2.2, (1 + x22.1)))) : Option ((List Int) × (Int × Int)))).bind fun s23 => (J.psh s10.2.2 (x19.1, s23.2.2)).bind fun x26 => some (s23.1, (s23.2.1, x26))
def m_law_lot (a0_0 : (List Int)) (a0_1 : Int) (a0_2 : Int) : Option ((List ((List Int) × Int)) × ((List Int) × Int)) :=
  (m_law_draw 10 a0_0 a0_1 a0_2).bind fun x2 => (m_law_draw 3 x2.2.1 a0_1 x2.2.2).bind fun x3 => (J.gx ([0, 2, (3 + x2.1)] : List Int) x3.1).bind fun x4 => (m_law_draw 7 x3.2.1 a0_1 x3.2.2).bind fun x5 => (m_law_draw 5 x5.2.1 a0_1 x5.2.2).bind fun x6 => (m_law_draw 2 x6.2.1 a0_1 x6.2.2).bind fun x7 => (J.gx ([x5.1, (2 + x6.1)] : List Int) x7.1).bind fun x8 => (J.rngG x8).bind fun x9 => (J.forM (m_law_lot_b0 a0_1 x4) x9 (x7.2.1, (x7.2.2, ([] : List ((List Int) × Int))))).bind fun s27 => some (s27.2.2, (s27.1, s27.2.1))
def m_law_many_c0 (s1 : Unit) (x3 : ((List Int) × Int)) : Option (Option Int × Unit) :=
   some (some x3.2, ())
def m_law_many (a1 : (List ((List Int) × Int))) (a0_0 : (List Int)) (a0_1 : Int) (a0_2 : Int) : Option (Int × ((List Int) × Int)) :=
  (J.lcM (m_law_many_c0) a1 ()).bind fun x4 => (m_law_draw 4 a0_0 a0_1 a0_2).bind fun x5 => (m_law_draw 64 x5.2.1 a0_1 x5.2.2).bind fun x6 => (m_law_draw 6 x6.2.1 a0_1 x6.2.2).bind fun x7 => (J.gx ([0, 0, 0, 1, x5.1, x6.1] : List Int) x7.1).bind fun x8 => some ((if ((J.maxDf x4.1 1) + x8) < 64 then ((J.maxDf x4.1 1) + x8) else 64), (x7.2.1, x7.2.2))
def m_law_size (a0_0 : (List Int)) (a0_1 : Int) (a0_2 : Int) : Option (Int × ((List Int) × Int)) :=
  (m_law_draw 9 a0_0 a0_1 a0_2).bind fun x1 => (m_law_draw 5 x1.2.1 a0_1 x1.2.2).bind fun x2 => (J.gx ([1, 1, 2, (1 + x1.1), 300] : List Int) x2.1).bind fun x3 => some (x3, (x2.2.1, x2.2.2))
def m_need_window (a0 : Int) (a1 : Int) : Option Unit :=
   if (decide (a0 < 1)) = true then ( none) else (  some ())
def m_Job_init (a1 : Int) (a2 : (List Int)) (a3 : Int) : Option (Int × ((List Int) × (Int × (Int × ((List (Int × Bool)) × ((Option Int) × (Int × Int))))))) :=
   some (a1, (a2, (a3, (0, (([] : List (Int × Bool)), (none, (0, 0)))))))
def m_Job_is_done (a0_0 : Int) (a0_1 : (List Int)) (a0_2 : Int) (a0_3 : Int) (a0_4 : (List (Int × Bool))) (a0_5 : (Option Int)) (a0_6_0 : Int) (a0_6_1 : Int) : Option Bool :=
   some (decide (a0_3 = ((a0_1).length : Int)))
def m_Plan_init_c0 (s1 : Unit) (x3 : (Int × ((List Int) × Int))) : Option (Option (Int × ((List Int) × (Int × (Int × ((List (Int × Bool)) × ((Option Int) × (Int × Int))))))) × Unit) :=
  (m_Job_init x3.1 x3.2.1 x3.2.2).bind fun x4 => some (some ((x4.1, (x4.2.1, (x4.2.2.1, (x4.2.2.2.1, (x4.2.2.2.2.1, (x4.2.2.2.2.2.1, (x4.2.2.2.2.2.2.1, x4.2.2.2.2.2.2.2))))))) : (Int × ((List Int) × (Int × (Int × ((List (Int × Bool)) × ((Option Int) × (Int × Int)))))))), ())
def m_Plan_init_c1 (x5 : (List (Int × ((List Int) × (Int × (Int × ((List (Int × Bool)) × ((Option Int) × (Int × Int))))))) × Unit)) (s8 : Unit) (x10 : Int) : Option (Option Int × Unit) :=
  (J.gxN x5.1 x10).bind fun x11 => (m_Job_is_done x11.1 x11.2.1 x11.2.2.1 x11.2.2.2.1 x11.2.2.2.2.1 x11.2.2.2.2.2.1 x11.2.2.2.2.2.2.1 x11.2.2.2.2.2.2.2).bind fun x12 => if (!x12) = true then  some (some x10, ()) else some (none, ())
def m_Plan_init (a1 : (List ((List Int) × Int))) (a2 : Int) (a3 : Int) : Option ((List (Int × ((List Int) × (Int × (Int × ((List (Int × Bool)) × ((Option Int) × (Int × Int)))))))) × (Int × (Int × ((List Int) × (Int × (List J.Hap)))))) :=
  (J.lcM (m_Plan_init_c0) (J.enu 0 a1) ()).bind fun x5 => (J.lcM (m_Plan_init_c1 x5) (J.rng 0 (x5.1).length) ()).bind fun x13 => some (x5.1, (a2, (a3, (x13.1, (0, ([] : List J.Hap))))))
def m_Job_is_on (a0_0 : Int) (a0_1 : (List Int)) (a0_2 : Int) (a0_3 : Int) (a0_4 : (List (Int × Bool))) (a0_5 : (Option Int)) (a0_6_0 : Int) (a0_6_1 : Int) : Option Bool :=
   some (!(a0_5).isNone)
def m_Plan_on_now_c0 (a0_0 : (List (Int × ((List Int) × (Int × (Int × ((List (Int × Bool)) × ((Option Int) × (Int × Int))))))))) (s2 : Unit) (x4 : Int) : Option (Option Int × Unit) :=
  (J.gxN a0_0 x4).bind fun x5 => (m_Job_is_on x5.1 x5.2.1 x5.2.2.1 x5.2.2.2.1 x5.2.2.2.2.1 x5.2.2.2.2.2.1 x5.2.2.2.2.2.2.1 x5.2.2.2.2.2.2.2).bind fun x6 => if x6 = true then  some (some x4, ()) else some (none, ())
def m_Plan_on_now (a0_0 : (List (Int × ((List Int) × (Int × (Int × ((List (Int × Bool)) × ((Option Int) × (Int × Int))))))))) (a0_1 : Int) (a0_2 : Int) (a0_3 : (List Int)) (a0_4 : Int) (a0_5 : (List J.Hap)) : Option (List Int) :=
  (J.lcM (m_Plan_on_now_c0 a0_0) (J.rng 0 (a0_0).length) ()).bind fun x7 => some x7.1
def m_Job_working_pages_c0 (s1 : Unit) (x3 : Int) : Option (Option (Int × Bool) × Unit) :=
   some (some (x3, true), ())
def m_Job_working_pages (a0_0 : Int) (a0_1 : (List Int)) (a0_2 : Int) (a0_3 : Int) (a0_4 : (List (Int × Bool))) (a0_5 : (Option Int)) (a0_6_0 : Int) (a0_6_1 : Int) : Option (List (Int × Bool)) :=
  (J.lcM (m_Job_working_pages_c0) (J.slc a0_1 (some (if (a0_3 - a0_2) > 0 then (a0_3 - a0_2) else 0)) (some a0_3)) ()).bind fun x4 => some (J.dOf (x4.1 : List (Int × Bool)))
def m_Plan_let_on_c0 (s1 : ((List (Int × ((List Int) × (Int × (Int × ((List (Int × Bool)) × ((Option Int) × (Int × Int)))))))) × ((List Int) × (List J.Hap)))) (s17 : Unit) (x19 : Int) : Option (Option Int × Unit) :=
  (J.gxN s1.1 x19).bind fun x21 => (m_Job_working_pages x21.1 x21.2.1 x21.2.2.1 x21.2.2.2.1 x21.2.2.2.2.1 x21.2.2.2.2.2.1 x21.2.2.2.2.2.2.1 x21.2.2.2.2.2.2.2).bind fun x22 => some (some ((x22).length : Int), ())
def m_Plan_let_on_t1 (s1 : ((List (Int × ((List Int) × (Int × (Int × ((List (Int × Bool)) × ((Option Int) × (Int × Int)))))))) × ((List Int) × (List J.Hap)))) : Option Bool :=
   some (decide (s1.2.1 ≠ ([] : List Int)))
def m_Plan_let_on_w2 (a0_1 : Int) (a0_2 : Int) (a0_4 : Int) (s1 : ((List (Int × ((List Int) × (Int × (Int × ((List (Int × Bool)) × ((Option Int) × (Int × Int)))))))) × ((List Int) × (List J.Hap)))) : Option (J.Lp ((List (Int × ((List Int) × (Int × (Int × ((List (Int × Bool)) × ((Option Int) × (Int × Int)))))))) × ((List Int) × (List J.Hap))) ((List (Int × ((List Int) × (Int × (Int × ((List (Int × Bool)) × ((Option Int) × (Int × Int)))))))) × ((List Int) × (Int × (List J.Hap))))) :=
  (J.gx s1.2.1 0).bind fun x5 => (m_Plan_on_now s1.1 a0_1 a0_2 s1.2.1 (a0_4 + 1) s1.2.2).bind fun x6 => if (decide (x6 ≠ ([] : List Int))) = true then ((J.catG x6 ([x5] : List Int)).bind fun x16 => (J.lcM (m_Plan_let_on_c0 s1) x16 ()).bind fun x23 => if (decide ((a0_1 - 1) < (x23.1).sum)) = true then ( some (.rt (s1.1, (s1.2.1, ((a0_4 + 1), s1.2.2))))) else ( (J.popG s1.2.1 0).bind fun x25 => (J.gxN s1.1 x5).bind fun x27 => (J.gxN (List.set s1.1 (x5).toNat ((x27.1, (x27.2.1, (x27.2.2.1, (x27.2.2.2.1, (x27.2.2.2.2.1, ((some (a0_4 + 1)), (x27.2.2.2.2.2.2.1, x27.2.2.2.2.2.2.2))))))) : (Int × ((List Int) × (Int × (Int × ((List (Int × Bool)) × ((Option Int) × (Int × Int))))))))) x5).bind fun x30 => (J.psh s1.2.2 (J.Hap.two ((("on" : PySem.Str), x30.1) : (PySem.Str × Int)).1 ((("on" : PySem.Str), x30.1) : (PySem.Str × Int)).2)).bind fun x31 => some (.nx ((List.set s1.1 (x5).toNat ((x27.1, (x27.2.1, (x27.2.2.1, (x27.2.2.2.1, (x27.2.2.2.2.1, ((some (a0_4 + 1)), (x27.2.2.2.2.2.2.1, x27.2.2.2.2.2.2.2))))))) : (Int × ((List Int) × (Int × (Int × ((List (Int × Bool)) × ((Option Int) × (Int × Int))))))))), (x25.2, x31))))) else ( (J.popG s1.2.1 0).bind fun x9 => (J.gxN s1.1 x5).bind fun x11 => (J.gxN (List.set s1.1 (x5).toNat ((x11.1, (x11.2.1, (x11.2.2.1, (x11.2.2.2.1, (x11.2.2.2.2.1, ((some (a0_4 + 1)), (x11.2.2.2.2.2.2.1, x11.2.2.2.2.2.2.2))))))) : (Int × ((List Int) × (Int × (Int × ((List (Int × Bool)) × ((Option Int) × (Int × Int))))))))) x5).bind fun x14 => (J.psh s1.2.2 (J.Hap.two ((("on" : PySem.Str), x14.1) : (PySem.Str × Int)).1 ((("on" : PySem.Str), x14.1) : (PySem.Str × Int)).2)).bind fun x15 => some (.nx ((List.set s1.1 (x5).toNat ((x11.1, (x11.2.1, (x11.2.2.1, (x11.2.2.2.1, (x11.2.2.2.2.1, ((some (a0_4 + 1)), (x11.2.2.2.2.2.2.1, x11.2.2.2.2.2.2.2))))))) : (Int × ((List Int) × (Int × (Int × ((List (Int × Bool)) × ((Option Int) × (Int × Int))))))))), (x9.2, x15))))
def m_Plan_let_on (a0_0 : (List (Int × ((List Int) × (Int × (Int × ((List (Int × Bool)) × ((Option Int) × (Int × Int))))))))) (a0_1 : Int) (a0_2 : Int) (a0_3 : (List Int)) (a0_4 : Int) (a0_5 : (List J.Hap)) : Option ((List (Int × ((List Int) × (Int × (Int × ((List (Int × Bool)) × ((Option Int) × (Int × Int)))))))) × ((List Int) × (Int × (List J.Hap)))) :=
   (J.whileL (m_Plan_let_on_t1) (m_Plan_let_on_w2 a0_1 a0_2 a0_4) 1000000 (a0_0, (a0_3, a0_5))).bind fun o33 => Sum.elim (fun s32 =>  some (s32.1, (s32.2.1, ((a0_4 + 1), s32.2.2)))) (fun r => some r) o33
def m_Job_ask_c0 (x4 : (List (Int × Bool))) (s7 : Unit) (x9 : Int) : Option (Option (Int × Bool) × Unit) :=
   if (J.dhas x4 x9) = true then  some (some (x9, true), ()) else some (none, ())
def m_Job_ask (a0_0 : Int) (a0_1 : (List Int)) (a0_2 : Int) (a0_3 : Int) (a0_4 : (List (Int × Bool))) (a0_5 : (Option Int)) (a0_6_0 : Int) (a0_6_1 : Int) : Option ((Int × PySem.Str) × (Int × (List (Int × Bool)))) :=
  (J.gx a0_1 a0_3).bind fun x1 => (m_Job_working_pages a0_0 a0_1 a0_2 a0_3 a0_4 a0_5 a0_6_0 a0_6_1).bind fun x2 => (m_Job_working_pages a0_0 a0_1 a0_2 (a0_3 + 1) a0_4 a0_5 a0_6_0 a0_6_1).bind fun x4 => (J.lcM (m_Job_ask_c0 x4) (a0_4.map (·.1)) ()).bind fun x10 => if (J.dhas (J.dOf (x10.1 : List (Int × Bool))) x1) = true then ( some ((x1, ("hit" : PySem.Str)), ((a0_3 + 1), (J.dOf (x10.1 : List (Int × Bool)))))) else ( (J.ifM (J.dhas x2 x1) ( some ("back" : PySem.Str)) ( some ("own" : PySem.Str))).bind fun x12 => some ((x1, x12), ((a0_3 + 1), (J.dOf (x10.1 : List (Int × Bool))))))
def m_Job_leave (a0_0 : Int) (a0_1 : (List Int)) (a0_2 : Int) (a0_3 : Int) (a0_4 : (List (Int × Bool))) (a0_5 : (Option Int)) (a0_6_0 : Int) (a0_6_1 : Int) : Option ((List (Int × Bool)) × (Option Int)) :=
   some (([] : List (Int × Bool)), none)
def m_Plan_make_room_c0 (s1 : ((List (Int × ((List Int) × (Int × (Int × ((List (Int × Bool)) × ((Option Int) × (Int × Int)))))))) × ((List Int) × (List J.Hap)))) (s4 : Unit) (x6 : Int) : Option (Option Int × Unit) :=
  (J.gxN s1.1 x6).bind fun x7 => some (some ((x7.2.2.2.2.1).length : Int), ())
def m_Plan_make_room_c1 (a1 : Int) (s1 : ((List (Int × ((List Int) × (Int × (Int × ((List (Int × Bool)) × ((Option Int) × (Int × Int)))))))) × ((List Int) × (List J.Hap)))) (s11 : Unit) (x13 : Int) : Option (Option (Int × Int) × Unit) :=
  (J.gxN s1.1 x13).bind fun x15 => (J.gxN s1.1 a1).bind fun x17 => if (decide (x15.1 ≠ x17.1)) = true then (J.gxN s1.1 x13).bind fun x19 => (x19.2.2.2.2.2.1).bind fun x20 => (J.gxN s1.1 x13).bind fun x22 => some (some (x20, x22.1), ()) else some (none, ())
def m_Plan_make_room_t2 (a0_1 : Int) (s1 : ((List (Int × ((List Int) × (Int × (Int × ((List (Int × Bool)) × ((Option Int) × (Int × Int)))))))) × ((List Int) × (List J.Hap)))) : Option Bool :=
  (J.lcM (m_Plan_make_room_c0 s1) (J.rng 0 (s1.1).length) ()).bind fun x9 => some (decide (a0_1 ≤ (x9.1).sum))
def m_Plan_make_room_w3 (a1 : Int) (a0_1 : Int) (a0_2 : Int) (a0_4 : Int) (s1 : ((List (Int × ((List Int) × (Int × (Int × ((List (Int × Bool)) × ((Option Int) × (Int × Int)))))))) × ((List Int) × (List J.Hap)))) : Option ((List (Int × ((List Int) × (Int × (Int × ((List (Int × Bool)) × ((Option Int) × (Int × Int)))))))) × ((List Int) × (List J.Hap))) :=
  (m_Plan_on_now s1.1 a0_1 a0_2 s1.2.1 a0_4 s1.2.2).bind fun x10 => (J.lcM (m_Plan_make_room_c1 a1 s1) x10 ()).bind fun x23 => (J.maxG x23.1).bind fun x25 => (J.gx (J.rng 0 (s1.1).length) x25.2).bind fun x26 => (J.gxN s1.1 x26).bind fun x28 => (m_Job_leave x28.1 x28.2.1 x28.2.2.1 x28.2.2.2.1 x28.2.2.2.2.1 x28.2.2.2.2.2.1 x28.2.2.2.2.2.2.1 x28.2.2.2.2.2.2.2).bind fun x29 => (J.psh s1.2.1 x26).bind fun x31 => (J.gxN (List.set s1.1 (x26).toNat ((x28.1, (x28.2.1, (x28.2.2.1, (x28.2.2.2.1, (x29.1, (x29.2, (x28.2.2.2.2.2.2.1, x28.2.2.2.2.2.2.2))))))) : (Int × ((List Int) × (Int × (Int × ((List (Int × Bool)) × ((Option Int) × (Int × Int))))))))) x26).bind fun x34 => (J.psh s1.2.2 (J.Hap.two ((("off" : PySem.Str), x34.1) : (PySem.Str × Int)).1 ((("off" : PySem.Str), x34.1) : (PySem.Str × Int)).2)).bind fun x35 => some ((List.set s1.1 (x26).toNat ((x28.1, (x28.2.1, (x28.2.2.1, (x28.2.2.2.1, (x29.1, (x29.2, (x28.2.2.2.2.2.2.1, x28.2.2.2.2.2.2.2))))))) : (Int × ((List Int) × (Int × (Int × ((List (Int × Bool)) × ((Option Int) × (Int × Int))))))))), (x31, x35))
def m_Plan_make_room (a1 : Int) (a0_0 : (List (Int × ((List Int) × (Int × (Int × ((List (Int × Bool)) × ((Option Int) × (Int × Int))))))))) (a0_1 : Int) (a0_2 : Int) (a0_3 : (List Int)) (a0_4 : Int) (a0_5 : (List J.Hap)) : Option ((List (Int × ((List Int) × (Int × (Int × ((List (Int × Bool)) × ((Option Int) × (Int × Int)))))))) × ((List Int) × (List J.Hap))) :=
  (J.whileM (m_Plan_make_room_t2 a0_1) (m_Plan_make_room_w3 a1 a0_1 a0_2 a0_4) 1000000 (a0_0, (a0_3, a0_5))).bind fun s36 => some (s36.1, (s36.2.1, s36.2.2))
def m_Plan_request (a1 : Int) (a0_0 : (List (Int × ((List Int) × (Int × (Int × ((List (Int × Bool)) × ((Option Int) × (Int × Int))))))))) (a0_1 : Int) (a0_2 : Int) (a0_3 : (List Int)) (a0_4 : Int) (a0_5 : (List J.Hap)) : Option ((List (Int × ((List Int) × (Int × (Int × ((List (Int × Bool)) × ((Option Int) × (Int × Int)))))))) × ((List Int) × (List J.Hap))) :=
  (J.gxN a0_0 a1).bind fun x2 => (m_Job_ask x2.1 x2.2.1 x2.2.2.1 x2.2.2.2.1 x2.2.2.2.2.1 x2.2.2.2.2.2.1 x2.2.2.2.2.2.2.1 x2.2.2.2.2.2.2.2).bind fun x3 => ((if (decide (x3.1.2 ≠ ("hit" : PySem.Str))) = true then ((m_Plan_make_room a1 (List.set a0_0 (a1).toNat ((x2.1, (x2.2.1, (x2.2.2.1, (x3.2.1, (x3.2.2, (x2.2.2.2.2.2.1, (x2.2.2.2.2.2.2.1, x2.2.2.2.2.2.2.2))))))) : (Int × ((List Int) × (Int × (Int × ((List (Int × Bool)) × ((Option Int) × (Int × Int))))))))) a0_1 a0_2 a0_3 a0_4 a0_5).bind fun x6 => (J.gxN x6.1 a1).bind fun x8 => (J.dputG x8.2.2.2.2.1 x3.1.1 true).bind fun x10 => (J.gxN (List.set x6.1 (a1).toNat ((x8.1, (x8.2.1, (x8.2.2.1, (x8.2.2.2.1, (x10, (x8.2.2.2.2.2.1, (x8.2.2.2.2.2.2.1, x8.2.2.2.2.2.2.2))))))) : (Int × ((List Int) × (Int × (Int × ((List (Int × Bool)) × ((Option Int) × (Int × Int))))))))) a1).bind fun x12 => (J.okW x3.1.2 "own" "back").bind fun x14 => some ((List.set (List.set x6.1 (a1).toNat ((x8.1, (x8.2.1, (x8.2.2.1, (x8.2.2.2.1, (x10, (x8.2.2.2.2.2.1, (x8.2.2.2.2.2.2.1, x8.2.2.2.2.2.2.2))))))) : (Int × ((List Int) × (Int × (Int × ((List (Int × Bool)) × ((Option Int) × (Int × Int))))))))) (a1).toNat ((x12.1, (x12.2.1, (x12.2.2.1, (x12.2.2.2.1, (x12.2.2.2.2.1, (x12.2.2.2.2.2.1, ((if x3.1.2 = ("own" : PySem.Str) then x12.2.2.2.2.2.2.1 + 1 else x12.2.2.2.2.2.2.1), (if x3.1.2 = ("own" : PySem.Str) then x12.2.2.2.2.2.2.2 else x12.2.2.2.2.2.2.2 + 1)))))))) : (Int × ((List Int) × (Int × (Int × ((List (Int × Bool)) × ((Option Int) × (Int × Int))))))))), (x6.2.1, x6.2.2))) else ( some ((List.set a0_0 (a1).toNat ((x2.1, (x2.2.1, (x2.2.2.1, (x3.2.1, (x3.2.2, (x2.2.2.2.2.2.1, (x2.2.2.2.2.2.2.1, x2.2.2.2.2.2.2.2))))))) : (Int × ((List Int) × (Int × (Int × ((List (Int × Bool)) × ((Option Int) × (Int × Int))))))))), (a0_3, a0_5))) : Option ((List (Int × ((List Int) × (Int × (Int × ((List (Int × Bool)) × ((Option Int) × (Int × Int)))))))) × ((List Int) × (List J.Hap))))).bind fun s4 => (J.gxN s4.1 a1).bind fun x17 => (J.psh s4.2.2 (J.Hap.three ((PySem.W.T3.mk x3.1.2 x17.1 x3.1.1) : (PySem.W.T3 PySem.Str Int Int)).a ((PySem.W.T3.mk x3.1.2 x17.1 x3.1.1) : (PySem.W.T3 PySem.Str Int Int)).b ((PySem.W.T3.mk x3.1.2 x17.1 x3.1.1) : (PySem.W.T3 PySem.Str Int Int)).c)).bind fun x18 => (J.gxN s4.1 a1).bind fun x20 => (m_Job_is_done x20.1 x20.2.1 x20.2.2.1 x20.2.2.2.1 x20.2.2.2.2.1 x20.2.2.2.2.2.1 x20.2.2.2.2.2.2.1 x20.2.2.2.2.2.2.2).bind fun x21 => ((if x21 = true then ((J.gxN s4.1 a1).bind fun x25 => (m_Job_leave x25.1 x25.2.1 x25.2.2.1 x25.2.2.2.1 x25.2.2.2.2.1 x25.2.2.2.2.2.1 x25.2.2.2.2.2.2.1 x25.2.2.2.2.2.2.2).bind fun x26 => (J.gxN (List.set s4.1 (a1).toNat ((x25.1, (x25.2.1, (x25.2.2.1, (x25.2.2.2.1, (x26.1, (x26.2, (x25.2.2.2.2.2.2.1, x25.2.2.2.2.2.2.2))))))) : (Int × ((List Int) × (Int × (Int × ((List (Int × Bool)) × ((Option Int) × (Int × Int))))))))) a1).bind fun x29 => (J.psh x18 (J.Hap.two ((("done" : PySem.Str), x29.1) : (PySem.Str × Int)).1 ((("done" : PySem.Str), x29.1) : (PySem.Str × Int)).2)).bind fun x30 => some ((List.set s4.1 (a1).toNat ((x25.1, (x25.2.1, (x25.2.2.1, (x25.2.2.2.1, (x26.1, (x26.2, (x25.2.2.2.2.2.2.1, x25.2.2.2.2.2.2.2))))))) : (Int × ((List Int) × (Int × (Int × ((List (Int × Bool)) × ((Option Int) × (Int × Int))))))))), x30)) else ( some (s4.1, x18)) : Option ((List (Int × ((List Int) × (Int × (Int × ((List (Int × Bool)) × ((Option Int) × (Int × Int)))))))) × (List J.Hap)))).bind fun s22 => some (s22.1, (s4.2.1, s22.2))
def m_Plan_take_turn_t0 (a1 : Int) (a0_2 : Int) (s1 : ((List (Int × ((List Int) × (Int × (Int × ((List (Int × Bool)) × ((Option Int) × (Int × Int)))))))) × ((List Int) × ((List J.Hap) × Int)))) : Option Bool :=
  (J.andM (decide (s1.2.2.2 < a0_2)) ((J.gxN s1.1 a1).bind fun x4 => (m_Job_is_on x4.1 x4.2.1 x4.2.2.1 x4.2.2.2.1 x4.2.2.2.2.1 x4.2.2.2.2.2.1 x4.2.2.2.2.2.2.1 x4.2.2.2.2.2.2.2).bind fun x5 => some x5)).bind fun x6 => some x6
def m_Plan_take_turn_w1 (a1 : Int) (a0_1 : Int) (a0_2 : Int) (a0_4 : Int) (s1 : ((List (Int × ((List Int) × (Int × (Int × ((List (Int × Bool)) × ((Option Int) × (Int × Int)))))))) × ((List Int) × ((List J.Hap) × Int)))) : Option ((List (Int × ((List Int) × (Int × (Int × ((List (Int × Bool)) × ((Option Int) × (Int × Int)))))))) × ((List Int) × ((List J.Hap) × Int))) :=
  (m_Plan_request a1 s1.1 a0_1 a0_2 s1.2.1 a0_4 s1.2.2.1).bind fun x7 => some (x7.1, (x7.2.1, (x7.2.2, (s1.2.2.2 + 1))))
def m_Plan_take_turn (a1 : Int) (a0_0 : (List (Int × ((List Int) × (Int × (Int × ((List (Int × Bool)) × ((Option Int) × (Int × Int))))))))) (a0_1 : Int) (a0_2 : Int) (a0_3 : (List Int)) (a0_4 : Int) (a0_5 : (List J.Hap)) : Option ((List (Int × ((List Int) × (Int × (Int × ((List (Int × Bool)) × ((Option Int) × (Int × Int)))))))) × ((List Int) × (List J.Hap))) :=
  (J.whileM (m_Plan_take_turn_t0 a1 a0_2) (m_Plan_take_turn_w1 a1 a0_1 a0_2 a0_4) 1000000 (a0_0, (a0_3, (a0_5, 0)))).bind fun s8 => some (s8.1, (s8.2.1, s8.2.2.1))
def m_Plan_go_b0 (a0_1 : Int) (a0_2 : Int) (s2 : ((List (Int × ((List Int) × (Int × (Int × ((List (Int × Bool)) × ((Option Int) × (Int × Int)))))))) × ((List Int) × (Int × (List J.Hap))))) (s6 : ((List (Int × ((List Int) × (Int × (Int × ((List (Int × Bool)) × ((Option Int) × (Int × Int)))))))) × ((List Int) × (List J.Hap)))) (x8 : Int) : Option ((List (Int × ((List Int) × (Int × (Int × ((List (Int × Bool)) × ((Option Int) × (Int × Int)))))))) × ((List Int) × (List J.Hap))) :=
  (m_Plan_take_turn x8 s6.1 a0_1 a0_2 s6.2.1 s2.2.2.1 s6.2.2).bind fun x13 => some (x13.1, (x13.2.1, x13.2.2))
def m_Plan_go_t1 (a0_1 : Int) (a0_2 : Int) (s2 : ((List (Int × ((List Int) × (Int × (Int × ((List (Int × Bool)) × ((Option Int) × (Int × Int)))))))) × ((List Int) × (Int × (List J.Hap))))) : Option Bool :=
  (m_Plan_on_now s2.1 a0_1 a0_2 s2.2.1 s2.2.2.1 s2.2.2.2).bind fun x4 => some (decide (x4 ≠ ([] : List Int)))
def m_Plan_go_w2 (a0_1 : Int) (a0_2 : Int) (s2 : ((List (Int × ((List Int) × (Int × (Int × ((List (Int × Bool)) × ((Option Int) × (Int × Int)))))))) × ((List Int) × (Int × (List J.Hap))))) : Option ((List (Int × ((List Int) × (Int × (Int × ((List (Int × Bool)) × ((Option Int) × (Int × Int)))))))) × ((List Int) × (Int × (List J.Hap)))) :=
  (m_Plan_on_now s2.1 a0_1 a0_2 s2.2.1 s2.2.2.1 s2.2.2.2).bind fun x5 => (J.forM (m_Plan_go_b0 a0_1 a0_2 s2) x5 (s2.1, (s2.2.1, s2.2.2.2))).bind fun s14 => (m_Plan_let_on s14.1 a0_1 a0_2 s14.2.1 s2.2.2.1 s14.2.2).bind fun x15 => some (x15.1, (x15.2.1, (x15.2.2.1, x15.2.2.2)))
def m_Plan_go (a0_0 : (List (Int × ((List Int) × (Int × (Int × ((List (Int × Bool)) × ((Option Int) × (Int × Int))))))))) (a0_1 : Int) (a0_2 : Int) (a0_3 : (List Int)) (a0_4 : Int) (a0_5 : (List J.Hap)) : Option ((List (Int × ((List Int) × (Int × (Int × ((List (Int × Bool)) × ((Option Int) × (Int × Int)))))))) × ((List Int) × (Int × (List J.Hap)))) :=
  (m_Plan_let_on a0_0 a0_1 a0_2 a0_3 a0_4 a0_5).bind fun x1 => (J.whileM (m_Plan_go_t1 a0_1 a0_2) (m_Plan_go_w2 a0_1 a0_2) 1000000 (x1.1, (x1.2.1, (x1.2.2.1, x1.2.2.2)))).bind fun s16 => some (s16.1, (s16.2.1, (s16.2.2.1, s16.2.2.2)))
def m_played_b0 (s1 : Unit) (x3 : (Int × ((List Int) × Int))) : Option Unit :=
  (m_need_window x3.2.2 x3.1).bind fun x8 => some ()
def m_played_c1 (s10 : Unit) (x12 : ((List Int) × Int)) : Option (Option Int × Unit) :=
   some (some x12.2, ())
def m_played (a0 : (List ((List Int) × Int))) (a1 : Int) (a2 : Int) : Option ((List (Int × ((List Int) × (Int × (Int × ((List (Int × Bool)) × ((Option Int) × (Int × Int)))))))) × (Int × (Int × ((List Int) × (Int × (List J.Hap)))))) :=
  (J.forM (m_played_b0) (J.enu 0 a0) ()).bind fun s9 => (J.lcM (m_played_c1) a0 ()).bind fun x13 => if (decide (a1 < (J.maxDf x13.1 1))) = true then ( none) else (  if (decide (a2 < 1)) = true then ( none) else ( (m_Plan_init a0 a1 a2).bind fun x14 => (m_Plan_go x14.1 x14.2.1 x14.2.2.1 x14.2.2.2.1 x14.2.2.2.2.1 x14.2.2.2.2.2).bind fun x17 => some (x17.1, (x14.2.1, (x14.2.2.1, (x17.2.1, (x17.2.2.1, x17.2.2.2)))))))
def m_story (a0 : (List ((List Int) × Int))) (a1 : Int) (a2 : Int) : Option (List J.Hap) :=
  (m_played a0 a1 a2).bind fun x1 => some x1.2.2.2.2.2
def m_job_faults_c0 (x1 : ((List (Int × ((List Int) × (Int × (Int × ((List (Int × Bool)) × ((Option Int) × (Int × Int)))))))) × (Int × (Int × ((List Int) × (Int × (List J.Hap))))))) (s4 : Unit) (x6 : Int) : Option (Option (Int × Int) × Unit) :=
  (J.gx x1.1 x6).bind fun x10 => some (some (x10.2.2.2.2.2.2.1, x10.2.2.2.2.2.2.2), ())
def m_job_faults (a0 : (List ((List Int) × Int))) (a1 : Int) (a2 : Int) : Option (List (Int × Int)) :=
  (m_played a0 a1 a2).bind fun x1 => (J.lcM (m_job_faults_c0 x1) (J.rng 0 (x1.1).length) ()).bind fun x12 => some x12.1
def m_law_turns_right_b0 (a1 : Int) (s1 : ((Option Int) × Int)) (x3 : J.Hap) : Option (J.Lp ((Option Int) × Int) Bool) :=
   if (decide ((J.Hap.len x3) = 3)) = true then ((J.andM (decide ((some (J.Hap.nm x3)) ≠ s1.1)) ((J.modG s1.2 a1).bind fun x8 => some (decide (x8 ≠ 0)))).bind fun x9 => if x9 = true then ( some (.rt false)) else ( (J.ifM (decide ((some (J.Hap.nm x3)) = s1.1)) ( some (s1.2 + 1)) ( some 1)).bind fun x10 =>  some (.nx ((some (J.Hap.nm x3)), x10)))) else (((if ((decide ((some (J.Hap.nm x3)) = s1.1)) && (decide ((J.Hap.wd x3) ≠ ("on" : PySem.Str)))) = true then ( some (((none, 0) : ((Option Int) × Int)).1, ((none, 0) : ((Option Int) × Int)).2)) else ( some (s1.1, s1.2)) : Option ((Option Int) × Int))).bind fun s11 =>  some (.nx (s11.1, s11.2)))
def m_law_turns_right (a0 : (List J.Hap)) (a1 : Int) : Option Bool :=
   (J.forL (m_law_turns_right_b0 a1) a0 (none, 0)).bind fun o14 => Sum.elim (fun s13 =>  some true) (fun r => some r) o14
def m_working_c0 (a0 : (List Int)) (a1 : Int) (s3 : Unit) (x5 : Int) : Option (Option (List Int) × Unit) :=
  (J.setG (J.slc a0 (some (if ((x5 + 1) - a1) > 0 then ((x5 + 1) - a1) else 0)) (some (x5 + 1)))).bind fun x6 => some (some x6, ())
def m_working (a0 : (List Int)) (a1 : Int) : Option (List (List Int)) :=
  (m_need_window a1 a1).bind fun x1 => (J.rngG ((a0).length : Int)).bind fun x2 => (J.lcM (m_working_c0 a0 a1) x2 ()).bind fun x7 => some x7.1
def m_window_walk_c0 (x5 : (Int × (List Int))) (s11 : Unit) (x13 : Int) : Option (Option Int × Unit) :=
   if (decide (x13 ∉ x5.2)) = true then  some (some x13, ()) else some (none, ())
def m_window_walk_b1 (s3 : ((List (PySem.W.T3 Int PySem.Str (PySem.W.Tup Int))) × (List Int))) (x5 : (Int × (List Int))) : Option ((List (PySem.W.T3 Int PySem.Str (PySem.W.Tup Int))) × (List Int)) :=
  (J.ifM (decide (x5.1 ∈ s3.2)) ( some ("hit" : PySem.Str)) ( some ("fault" : PySem.Str))).bind fun x10 => (J.lcM (m_window_walk_c0 x5) s3.2 ()).bind fun x14 => (J.psh s3.1 (PySem.W.T3.mk x5.1 x10 (PySem.W.Tup.mk (x14.1 : List Int)))).bind fun x15 => some (x15, x5.2)
def m_window_walk (a0 : (List Int)) (a1 : Int) : Option (List (PySem.W.T3 Int PySem.Str (PySem.W.Tup Int))) :=
  (m_working a0 a1).bind fun x2 => (J.forM (m_window_walk_b1) (List.zip a0 x2) (([] : List (PySem.W.T3 Int PySem.Str (PySem.W.Tup Int))), ([] : List Int))).bind fun s16 => some s16.1
def m_law_one_right_c0 (a1 : Int) (s1 : Unit) (x3 : J.Hap) : Option (Option J.Hap × Unit) :=
   if (decide ((J.Hap.nm x3) = a1)) = true then  some (some x3, ()) else some (none, ())
def m_law_one_right_c1 (s5 : Unit) (x7 : J.Hap) : Option (Option PySem.Str × Unit) :=
   if (decide ((J.Hap.len x7) = 2)) = true then  some (some (J.Hap.wd x7), ()) else some (none, ())
def m_law_one_right_c2 (s11 : Unit) (x13 : J.Hap) : Option (Option J.Hap × Unit) :=
   if (decide ((J.Hap.len x13) = 3)) = true then  some (some x13, ()) else some (none, ())
def m_law_one_right_c3 (s17 : Unit) (x19 : J.Hap) : Option (Option Int × Unit) :=
  (J.Hap.pg x19).bind fun x20 => some (some x20, ())
def m_law_one_right_b4 (x14 : (List J.Hap × Unit)) (x24 : (List (PySem.W.T3 Int PySem.Str (PySem.W.Tup Int)))) (s26 : Unit) (x28 : Int) : Option (J.Lp Unit Bool) :=
  (J.gx x14.1 x28).bind fun x33 => (J.gx x24 x28).bind fun x34 => (J.orM (decide ((decide ((J.Hap.wd x33) = ("own" : PySem.Str))) ≠ (decide (x34.b = ("fault" : PySem.Str))))) ((J.gx x14.1 x28).bind fun x35 => some (decide ((J.Hap.wd x35) ∉ ([("own" : PySem.Str), ("back" : PySem.Str), ("hit" : PySem.Str)] : List PySem.Str))))).bind fun x36 => if x36 = true then ( some (.rt false)) else (  some (.nx ()))
def m_law_one_right (a0 : (List J.Hap)) (a1 : Int) (a2 : (List Int)) (a3 : Int) : Option Bool :=
  (J.lcM (m_law_one_right_c0 a1) a0 ()).bind fun x4 => if (decide (a2 = ([] : List Int))) = true then ( some (decide (x4.1 = ([] : List J.Hap)))) else ( (J.lcM (m_law_one_right_c1) x4.1 ()).bind fun x8 => (J.repG ([("on" : PySem.Str), ("off" : PySem.Str)] : List PySem.Str) ((((x8.1).length : Int) / 2) - 1)).bind fun x9 => (J.catG x9 ([("on" : PySem.Str), ("done" : PySem.Str)] : List PySem.Str)).bind fun x10 => if (decide (x8.1 ≠ x10)) = true then ( some false) else ( (J.lcM (m_law_one_right_c2) x4.1 ()).bind fun x14 => (J.gx x4.1 0).bind fun x15 => (J.orM (decide ((J.Hap.wd x15) ≠ ("on" : PySem.Str))) ((J.gx x4.1 (-1)).bind fun x16 => (J.orM (decide ((J.Hap.wd x16) ≠ ("done" : PySem.Str))) ((J.lcM (m_law_one_right_c3) x14.1 ()).bind fun x21 => some (decide (x21.1 ≠ a2)))).bind fun x22 => some x22)).bind fun x23 => if x23 = true then ( some false) else ( (m_window_walk a2 a3).bind fun x24 => (J.rngG ((a2).length : Int)).bind fun x25 => (J.forL (m_law_one_right_b4 x14 x24) x25 ()).bind fun o38 => Sum.elim (fun s37 =>  some true) (fun r => some r) o38)))
def m_law_c0 (s28 : Unit) (x30 : (PySem.W.T3 Int PySem.Str (PySem.W.Tup Int))) : Option (Option Int × Unit) :=
   if (decide (x30.b = ("fault" : PySem.Str))) = true then  some (some 1, ()) else some (none, ())
def m_law_b1 (x3 : ((List ((List Int) × Int)) × ((List Int) × Int))) (x14 : (List J.Hap)) (x15 : (List (Int × Int))) (s19 : Unit) (x21 : Int) : Option (J.Lp Unit Bool) :=
  (J.gx x3.1 x21).bind fun x26 => (m_window_walk x26.1 x26.2).bind fun x27 => (J.lcM (m_law_c0) x27 ()).bind fun x31 => (m_law_one_right x14 x21 x26.1 x26.2).bind fun x32 => (J.orM (!x32) ((J.gx x15 x21).bind fun x33 => some (decide (x33.1 ≠ ((x31.1).length : Int))))).bind fun x34 => if x34 = true then ( some (.rt false)) else (  some (.nx ()))
def m_law_b2 (x1 : ((List Int) × (Int × Int))) (x3 : ((List ((List Int) × Int)) × ((List Int) × Int))) (s5 : ((List Int) × Int)) (x7 : Int) : Option (J.Lp ((List Int) × Int) Bool) :=
  (m_law_many x3.1 s5.1 x1.2.1 s5.2).bind fun x12 => (m_law_size x12.2.1 x1.2.1 x12.2.2).bind fun x13 => (m_story x3.1 x12.1 x13.1).bind fun x14 => (m_job_faults x3.1 x12.1 x13.1).bind fun x15 => (J.orM (decide (((x15).length : Int) ≠ ((x3.1).length : Int))) ((m_law_turns_right x14 x13.1).bind fun x16 => some (!x16))).bind fun x17 => if x17 = true then ( some (.rt false)) else ( (J.rngG ((x3.1).length : Int)).bind fun x18 => (J.forL (m_law_b1 x3 x14 x15) x18 ()).bind fun o36 => Sum.elim (fun s35 =>  some (.nx (x13.2.1, x13.2.2))) (fun r => some (.rt r)) o36)
def m_law (a0 : List Int) : Option Bool :=
  (m_law_bag a0).bind fun x1 => (m_law_lot x1.1 x1.2.1 x1.2.2).bind fun x3 => (J.rngG 2).bind fun x4 => (J.forL (m_law_b2 x1 x3) x4 (x3.2.1, x3.2.2)).bind fun o38 => Sum.elim (fun s37 =>  some true) (fun r => some r) o38
open J.Slot renaming val → sV9, own → sO9, any → sA9, v → sR9
open J.Cel renaming lst → cL9, ins → cI9, dk → cD9
open PySem renaming Str → St9
def top (i : Nat) : Stmt := PySem.Challenge.pw_pagerooms_k31_whole_own_faults.main.body.getD i (.Pass ⟨0, 0, 0, 0⟩)
abbrev s__law_bag : Stmt := top 19
abbrev s__law_draw : Stmt := top 20
abbrev s__law_pages : Stmt := top 21
abbrev s__law_line : Stmt := top 22
abbrev s__law_lot : Stmt := top 23
abbrev s__law_many : Stmt := top 24
abbrev s__law_size : Stmt := top 25
abbrev s_need_window : Stmt := top 6
abbrev s_Job_init : Stmt := inClass (top 13) 0
abbrev s_Job_is_done : Stmt := inClass (top 13) 1
abbrev s_Plan_init : Stmt := inClass (top 14) 0
abbrev s_Job_is_on : Stmt := inClass (top 13) 2
abbrev s_Plan_on_now : Stmt := inClass (top 14) 1
abbrev s_Job_working_pages : Stmt := inClass (top 13) 3
abbrev s_Plan_let_on : Stmt := inClass (top 14) 2
abbrev s_Job_ask : Stmt := inClass (top 13) 4
abbrev s_Job_leave : Stmt := inClass (top 13) 5
abbrev s_Plan_make_room : Stmt := inClass (top 14) 3
abbrev s_Plan_request : Stmt := inClass (top 14) 4
abbrev s_Plan_take_turn : Stmt := inClass (top 14) 5
abbrev s_Plan_go : Stmt := inClass (top 14) 6
abbrev s_played : Stmt := top 15
abbrev s_story : Stmt := top 16
abbrev s_job_faults : Stmt := top 17
abbrev s__law_turns_right : Stmt := top 27
abbrev s_working : Stmt := top 7
abbrev s_window_walk : Stmt := top 8
abbrev s__law_one_right : Stmt := top 26
abbrev s_law : Stmt := top 28
abbrev FnP (K : PySem.W.Frag) (x : Str) (st : Stmt) (f : Addr) (fd : FuncData) : Prop := FunD K x x (defArgs st) (defBody st) (defScope st) [] [] f fd
theorem sc__law_bag : FnScope ["script", "great", "fold", "cell"] ["script"] (defScope s__law_bag) := ⟨rfl, rfl, rfl, by decide +kernel, rfl, by decide +kernel, by decide +kernel⟩
theorem sc__law_draw : FnScope ["bag", "many", "great", "mixed", "one"] ["bag", "many"] (defScope s__law_draw) := ⟨rfl, rfl, rfl, by decide +kernel, rfl, by decide +kernel, by decide +kernel⟩
theorem sc__law_pages : FnScope ["bag", "base", "at"] ["bag"] (defScope s__law_pages) := ⟨rfl, rfl, rfl, by decide +kernel, rfl, by decide +kernel, by decide +kernel⟩
theorem sc__law_line : FnScope ["bag", "most", "some", "many", "kind", "found", "k", "first", "step", "at"] ["bag", "most"] (defScope s__law_line) := ⟨rfl, rfl, rfl, by decide +kernel, rfl, by decide +kernel, by decide +kernel⟩
theorem sc__law_lot : FnScope ["bag", "found", "size", "k", "line", "wide"] ["bag"] (defScope s__law_lot) := ⟨rfl, rfl, rfl, by decide +kernel, rfl, by decide +kernel, by decide +kernel⟩
theorem sc__law_many : FnScope ["bag", "lot", "least", "one"] ["bag", "lot"] (defScope s__law_many) := ⟨rfl, rfl, rfl, by decide +kernel, rfl, by decide +kernel, by decide +kernel⟩
theorem sc__law_size : FnScope ["bag"] ["bag"] (defScope s__law_size) := ⟨rfl, rfl, rfl, by decide +kernel, rfl, by decide +kernel, by decide +kernel⟩
theorem sc_need_window : FnScope ["window", "what"] ["window", "what"] (defScope s_need_window) := ⟨rfl, rfl, rfl, by decide +kernel, rfl, by decide +kernel, by decide +kernel⟩
theorem sc_Job_init : FnScope ["self", "number", "trace", "window"] ["self", "number", "trace", "window"] (defScope s_Job_init) := ⟨rfl, rfl, rfl, by decide +kernel, rfl, by decide +kernel, by decide +kernel⟩
theorem sc_Job_is_done : FnScope ["self"] ["self"] (defScope s_Job_is_done) := ⟨rfl, rfl, rfl, by decide +kernel, rfl, by decide +kernel, by decide +kernel⟩
theorem sc_Plan_init : FnScope ["self", "jobs", "frames", "turn", "job", "number", "trace", "window"] ["self", "jobs", "frames", "turn"] (defScope s_Plan_init) := ⟨rfl, rfl, rfl, by decide +kernel, rfl, by decide +kernel, by decide +kernel⟩
theorem sc_Job_is_on : FnScope ["self"] ["self"] (defScope s_Job_is_on) := ⟨rfl, rfl, rfl, by decide +kernel, rfl, by decide +kernel, by decide +kernel⟩
theorem sc_Plan_on_now : FnScope ["self", "job"] ["self"] (defScope s_Plan_on_now) := ⟨rfl, rfl, rfl, by decide +kernel, rfl, by decide +kernel, by decide +kernel⟩
theorem sc_Job_working_pages : FnScope ["self", "page"] ["self"] (defScope s_Job_working_pages) := ⟨rfl, rfl, rfl, by decide +kernel, rfl, by decide +kernel, by decide +kernel⟩
theorem sc_Plan_let_on : FnScope ["self", "job", "on", "one"] ["self"] (defScope s_Plan_let_on) := ⟨rfl, rfl, rfl, by decide +kernel, rfl, by decide +kernel, by decide +kernel⟩
theorem sc_Job_ask : FnScope ["self", "page", "ahead", "now", "one"] ["self"] (defScope s_Job_ask) := ⟨rfl, rfl, rfl, by decide +kernel, rfl, by decide +kernel, by decide +kernel⟩
theorem sc_Job_leave : FnScope ["self"] ["self"] (defScope s_Job_leave) := ⟨rfl, rfl, rfl, by decide +kernel, rfl, by decide +kernel, by decide +kernel⟩
theorem sc_Plan_make_room : FnScope ["self", "asking", "others", "job"] ["self", "asking"] (defScope s_Plan_make_room) := ⟨rfl, rfl, rfl, by decide +kernel, rfl, by decide +kernel, by decide +kernel⟩
theorem sc_Plan_request : FnScope ["self", "job", "page", "word"] ["self", "job"] (defScope s_Plan_request) := ⟨rfl, rfl, rfl, by decide +kernel, rfl, by decide +kernel, by decide +kernel⟩
theorem sc_Plan_take_turn : FnScope ["self", "job", "asked"] ["self", "job"] (defScope s_Plan_take_turn) := ⟨rfl, rfl, rfl, by decide +kernel, rfl, by decide +kernel, by decide +kernel⟩
theorem sc_Plan_go : FnScope ["self", "job"] ["self"] (defScope s_Plan_go) := ⟨rfl, rfl, rfl, by decide +kernel, rfl, by decide +kernel, by decide +kernel⟩
theorem sc_played : FnScope ["jobs", "frames", "turn", "plan", "number", "trace", "window"] ["jobs", "frames", "turn"] (defScope s_played) := ⟨rfl, rfl, rfl, by decide +kernel, rfl, by decide +kernel, by decide +kernel⟩
theorem sc_story : FnScope ["jobs", "frames", "turn"] ["jobs", "frames", "turn"] (defScope s_story) := ⟨rfl, rfl, rfl, by decide +kernel, rfl, by decide +kernel, by decide +kernel⟩
theorem sc_job_faults : FnScope ["jobs", "frames", "turn", "job"] ["jobs", "frames", "turn"] (defScope s_job_faults) := ⟨rfl, rfl, rfl, by decide +kernel, rfl, by decide +kernel, by decide +kernel⟩
theorem sc__law_turns_right : FnScope ["told", "size", "here", "run", "one"] ["told", "size"] (defScope s__law_turns_right) := ⟨rfl, rfl, rfl, by decide +kernel, rfl, by decide +kernel, by decide +kernel⟩
theorem sc_working : FnScope ["trace", "window", "at"] ["trace", "window"] (defScope s_working) := ⟨rfl, rfl, rfl, by decide +kernel, rfl, by decide +kernel, by decide +kernel⟩
theorem sc_window_walk : FnScope ["trace", "window", "found", "ahead", "page", "behind", "word", "one"] ["trace", "window"] (defScope s_window_walk) := ⟨rfl, rfl, rfl, by decide +kernel, rfl, by decide +kernel, by decide +kernel⟩
theorem sc__law_one_right : FnScope ["told", "k", "line", "wide", "mine", "steps", "asked", "walked", "at", "one"] ["told", "k", "line", "wide"] (defScope s__law_one_right) := ⟨rfl, rfl, rfl, by decide +kernel, rfl, by decide +kernel, by decide +kernel⟩
theorem sc_law : FnScope ["script", "bag", "lot", "turned", "many", "size", "told", "counts", "k", "due", "line", "wide", "one"] ["script"] (defScope s_law) := ⟨rfl, rfl, rfl, by decide +kernel, rfl, by decide +kernel, by decide +kernel⟩
structure Wd (K : PySem.W.Frag) (mg : Str → Option Value) where
  qs : List PySem.Addr
  C_Job : Addr
  gC_Job : mg "Job" = some (.ref C_Job)
  cl_Job : Cls K C_Job
  C_Plan : Addr
  gC_Plan : mg "Plan" = some (.ref C_Plan)
  cl_Plan : Cls K C_Plan
  na_Job_number : NoAttr K C_Job "number"
  na_Job_trace : NoAttr K C_Job "trace"
  na_Job_window : NoAttr K C_Job "window"
  na_Job_at : NoAttr K C_Job "at"
  na_Job_pages_in : NoAttr K C_Job "pages_in"
  na_Job_on_since : NoAttr K C_Job "on_since"
  na_Job_faults : NoAttr K C_Job "faults"
  na_Plan_jobs : NoAttr K C_Plan "jobs"
  na_Plan_frames_there : NoAttr K C_Plan "frames_there"
  na_Plan_turn : NoAttr K C_Plan "turn"
  na_Plan_waiting : NoAttr K C_Plan "waiting"
  na_Plan_lettings : NoAttr K C_Plan "lettings"
  na_Plan_told : NoAttr K C_Plan "told"
  gS_OWN : ∃ t, mg "OWN" = some (.str "own" t)
  gS_BACK : ∃ t, mg "BACK" = some (.str "back" t)
  gS_HIT : ∃ t, mg "HIT" = some (.str "hit" t)
  a__law_bag : Addr
  d__law_bag : FuncData
  F__law_bag : FnP K "_law_bag" s__law_bag a__law_bag d__law_bag
  g__law_bag : mg "_law_bag" = some (.ref a__law_bag)
  b__law_bag : Binds K d__law_bag ["script"] []
  a__law_draw : Addr
  d__law_draw : FuncData
  F__law_draw : FnP K "_law_draw" s__law_draw a__law_draw d__law_draw
  g__law_draw : mg "_law_draw" = some (.ref a__law_draw)
  b__law_draw : Binds K d__law_draw ["bag", "many"] []
  a__law_pages : Addr
  d__law_pages : FuncData
  F__law_pages : FnP K "_law_pages" s__law_pages a__law_pages d__law_pages
  g__law_pages : mg "_law_pages" = some (.ref a__law_pages)
  b__law_pages : Binds K d__law_pages ["bag"] []
  a__law_line : Addr
  d__law_line : FuncData
  F__law_line : FnP K "_law_line" s__law_line a__law_line d__law_line
  g__law_line : mg "_law_line" = some (.ref a__law_line)
  b__law_line : Binds K d__law_line ["bag", "most"] []
  a__law_lot : Addr
  d__law_lot : FuncData
  F__law_lot : FnP K "_law_lot" s__law_lot a__law_lot d__law_lot
  g__law_lot : mg "_law_lot" = some (.ref a__law_lot)
  b__law_lot : Binds K d__law_lot ["bag"] []
  a__law_many : Addr
  d__law_many : FuncData
  F__law_many : FnP K "_law_many" s__law_many a__law_many d__law_many
  g__law_many : mg "_law_many" = some (.ref a__law_many)
  b__law_many : Binds K d__law_many ["bag", "lot"] []
  a__law_size : Addr
  d__law_size : FuncData
  F__law_size : FnP K "_law_size" s__law_size a__law_size d__law_size
  g__law_size : mg "_law_size" = some (.ref a__law_size)
  b__law_size : Binds K d__law_size ["bag"] []
  a_need_window : Addr
  d_need_window : FuncData
  F_need_window : FnP K "need_window" s_need_window a_need_window d_need_window
  g_need_window : mg "need_window" = some (.ref a_need_window)
  b_need_window : Binds K d_need_window ["window", "what"] []
  a_Job_init : Addr
  d_Job_init : FuncData
  F_Job_init : FunD K "__init__" "Job.__init__" (defArgs s_Job_init) (defBody s_Job_init) (defScope s_Job_init) [] [] a_Job_init d_Job_init
  b_Job_init : Binds K d_Job_init ["self", "number", "trace", "window"] []
  k_Job_init : Mk K C_Job a_Job_init
  a_Job_is_done : Addr
  d_Job_is_done : FuncData
  F_Job_is_done : FunD K "is_done" "Job.is_done" (defArgs s_Job_is_done) (defBody s_Job_is_done) (defScope s_Job_is_done) [] [] a_Job_is_done d_Job_is_done
  b_Job_is_done : Binds K d_Job_is_done ["self"] []
  m_Job_is_done : Meth K C_Job "is_done" a_Job_is_done
  a_Plan_init : Addr
  d_Plan_init : FuncData
  F_Plan_init : FunD K "__init__" "Plan.__init__" (defArgs s_Plan_init) (defBody s_Plan_init) (defScope s_Plan_init) [] [] a_Plan_init d_Plan_init
  b_Plan_init : Binds K d_Plan_init ["self", "jobs", "frames", "turn"] []
  k_Plan_init : Mk K C_Plan a_Plan_init
  a_Job_is_on : Addr
  d_Job_is_on : FuncData
  F_Job_is_on : FunD K "is_on" "Job.is_on" (defArgs s_Job_is_on) (defBody s_Job_is_on) (defScope s_Job_is_on) [] [] a_Job_is_on d_Job_is_on
  b_Job_is_on : Binds K d_Job_is_on ["self"] []
  m_Job_is_on : Meth K C_Job "is_on" a_Job_is_on
  a_Plan_on_now : Addr
  d_Plan_on_now : FuncData
  F_Plan_on_now : FunD K "on_now" "Plan.on_now" (defArgs s_Plan_on_now) (defBody s_Plan_on_now) (defScope s_Plan_on_now) [] [] a_Plan_on_now d_Plan_on_now
  b_Plan_on_now : Binds K d_Plan_on_now ["self"] []
  m_Plan_on_now : Meth K C_Plan "on_now" a_Plan_on_now
  a_Job_working_pages : Addr
  d_Job_working_pages : FuncData
  F_Job_working_pages : FunD K "working_pages" "Job.working_pages" (defArgs s_Job_working_pages) (defBody s_Job_working_pages) (defScope s_Job_working_pages) [] [] a_Job_working_pages d_Job_working_pages
  b_Job_working_pages : Binds K d_Job_working_pages ["self"] []
  m_Job_working_pages : Meth K C_Job "working_pages" a_Job_working_pages
  a_Plan_let_on : Addr
  d_Plan_let_on : FuncData
  F_Plan_let_on : FunD K "let_on" "Plan.let_on" (defArgs s_Plan_let_on) (defBody s_Plan_let_on) (defScope s_Plan_let_on) [] [] a_Plan_let_on d_Plan_let_on
  b_Plan_let_on : Binds K d_Plan_let_on ["self"] []
  m_Plan_let_on : Meth K C_Plan "let_on" a_Plan_let_on
  a_Job_ask : Addr
  d_Job_ask : FuncData
  F_Job_ask : FunD K "ask" "Job.ask" (defArgs s_Job_ask) (defBody s_Job_ask) (defScope s_Job_ask) [] [] a_Job_ask d_Job_ask
  b_Job_ask : Binds K d_Job_ask ["self"] []
  m_Job_ask : Meth K C_Job "ask" a_Job_ask
  a_Job_leave : Addr
  d_Job_leave : FuncData
  F_Job_leave : FunD K "leave" "Job.leave" (defArgs s_Job_leave) (defBody s_Job_leave) (defScope s_Job_leave) [] [] a_Job_leave d_Job_leave
  b_Job_leave : Binds K d_Job_leave ["self"] []
  m_Job_leave : Meth K C_Job "leave" a_Job_leave
  a_Plan_make_room : Addr
  d_Plan_make_room : FuncData
  F_Plan_make_room : FunD K "make_room" "Plan.make_room" (defArgs s_Plan_make_room) (defBody s_Plan_make_room) (defScope s_Plan_make_room) [] [] a_Plan_make_room d_Plan_make_room
  b_Plan_make_room : Binds K d_Plan_make_room ["self", "asking"] []
  m_Plan_make_room : Meth K C_Plan "make_room" a_Plan_make_room
  a_Plan_request : Addr
  d_Plan_request : FuncData
  F_Plan_request : FunD K "request" "Plan.request" (defArgs s_Plan_request) (defBody s_Plan_request) (defScope s_Plan_request) [] [] a_Plan_request d_Plan_request
  b_Plan_request : Binds K d_Plan_request ["self", "job"] []
  m_Plan_request : Meth K C_Plan "request" a_Plan_request
  a_Plan_take_turn : Addr
  d_Plan_take_turn : FuncData
  F_Plan_take_turn : FunD K "take_turn" "Plan.take_turn" (defArgs s_Plan_take_turn) (defBody s_Plan_take_turn) (defScope s_Plan_take_turn) [] [] a_Plan_take_turn d_Plan_take_turn
  b_Plan_take_turn : Binds K d_Plan_take_turn ["self", "job"] []
  m_Plan_take_turn : Meth K C_Plan "take_turn" a_Plan_take_turn
  a_Plan_go : Addr
  d_Plan_go : FuncData
  F_Plan_go : FunD K "go" "Plan.go" (defArgs s_Plan_go) (defBody s_Plan_go) (defScope s_Plan_go) [] [] a_Plan_go d_Plan_go
  b_Plan_go : Binds K d_Plan_go ["self"] []
  m_Plan_go : Meth K C_Plan "go" a_Plan_go
  a_played : Addr
  d_played : FuncData
  F_played : FnP K "played" s_played a_played d_played
  g_played : mg "played" = some (.ref a_played)
  b_played : Binds K d_played ["jobs", "frames", "turn"] []
  a_story : Addr
  d_story : FuncData
  F_story : FunD K "story" "story" (defArgs s_story) (defBody s_story) (defScope s_story) [] [("turn", V.int 1)] a_story d_story
  g_story : mg "story" = some (.ref a_story)
  a_job_faults : Addr
  d_job_faults : FuncData
  F_job_faults : FunD K "job_faults" "job_faults" (defArgs s_job_faults) (defBody s_job_faults) (defScope s_job_faults) [] [("turn", V.int 1)] a_job_faults d_job_faults
  g_job_faults : mg "job_faults" = some (.ref a_job_faults)
  a__law_turns_right : Addr
  d__law_turns_right : FuncData
  F__law_turns_right : FnP K "_law_turns_right" s__law_turns_right a__law_turns_right d__law_turns_right
  g__law_turns_right : mg "_law_turns_right" = some (.ref a__law_turns_right)
  b__law_turns_right : Binds K d__law_turns_right ["told", "size"] []
  a_working : Addr
  d_working : FuncData
  F_working : FnP K "working" s_working a_working d_working
  g_working : mg "working" = some (.ref a_working)
  b_working : Binds K d_working ["trace", "window"] []
  a_window_walk : Addr
  d_window_walk : FuncData
  F_window_walk : FnP K "window_walk" s_window_walk a_window_walk d_window_walk
  g_window_walk : mg "window_walk" = some (.ref a_window_walk)
  b_window_walk : Binds K d_window_walk ["trace", "window"] []
  a__law_one_right : Addr
  d__law_one_right : FuncData
  F__law_one_right : FnP K "_law_one_right" s__law_one_right a__law_one_right d__law_one_right
  g__law_one_right : mg "_law_one_right" = some (.ref a__law_one_right)
  b__law_one_right : Binds K d__law_one_right ["told", "k", "line", "wide"] []
  a_law : Addr
  d_law : FuncData
  F_law : FnP K "law" s_law a_law d_law
  g_law : mg "law" = some (.ref a_law)
  b_law : Binds K d_law ["script"] []
  l_enumerate : mg "enumerate" = none
  l_len : mg "len" = none
  l_max : mg "max" = none
  l_min : mg "min" = none
  l_range : mg "range" = none
  l_set : mg "set" = none
  l_sorted : mg "sorted" = none
  l_sum : mg "sum" = none
  l_tuple : mg "tuple" = none
  l_zip : mg "zip" = none
def Cs0 {K : PySem.W.Frag} {mg : Str → Option Value} (W : Wd K mg) (s : (Int × ((List Int) × (Int × (Int × ((List (Int × Bool)) × ((Option Int) × (Int × Int)))))))) : J.Cel := (cI9 W.C_Job [(("number" : St9), (sV9 (s.1 : Int))), (("trace" : St9), (sV9 (s.2.1 : (List Int)))), (("window" : St9), (sV9 (s.2.2.1 : Int))), (("at" : St9), (sV9 (s.2.2.2.1 : Int))), (("pages_in" : St9), (sO9 (cD9 (J.dks (s.2.2.2.2.1 : List (Int × Bool))) (J.dss (s.2.2.2.2.1 : List (Int × Bool)))))), (("on_since" : St9), (sV9 (s.2.2.2.2.2.1 : (Option Int)))), (("faults" : St9), (sO9 (cD9 [Sum.inr ("own" : St9), Sum.inr ("back" : St9)] [(sV9 (s.2.2.2.2.2.2.1 : Int)), (sV9 (s.2.2.2.2.2.2.2 : Int))])))])
theorem NGCs0 {K : PySem.W.Frag} {mg : Str → Option Value} (W : Wd K mg) (s : (Int × ((List Int) × (Int × (Int × ((List (Int × Bool)) × ((Option Int) × (Int × Int)))))))) : Cs0 W s ≠ J.Cel.gone := by intro h; unfold Cs0 at h; cases h
section
variable {P : Program} {w : World} {K : PySem.W.Frag} {mg : Str → Option Value} {base : Heap}
theorem kbe_story_0 (W : Wd K mg) : ∃ mv : List Value, KBn K W.d_story ["jobs", "frames", "turn"] 2 ["turn"] (fun us ws => J.pick [0, 1, 2] (us ++ mv ++ ws)) (fun vs zs => J.pick [0, 1, 2] (vs ++ [] ++ zs)) :=
  W.F_story.kbinds0 2 ["turn"] [] (fun us mv ws => J.pick [0, 1, 2] (us ++ mv ++ ws)) (by nofun) (fun q h => by simpa using h) (fun r1 r2 r3 => J.pick_vals ((r1.append r2).append r3) _) (fun D doc pm an cdv ct us mv ws h1 h2 h3 => by
    match us, mv, ws, h1, h2, h3 with
    | [u0, u1], [], [w0], _, _, _ => exact rfl)
theorem kbe_job_faults_1 (W : Wd K mg) : ∃ mv : List Value, KBn K W.d_job_faults ["jobs", "frames", "turn"] 2 ["turn"] (fun us ws => J.pick [0, 1, 2] (us ++ mv ++ ws)) (fun vs zs => J.pick [0, 1, 2] (vs ++ [] ++ zs)) :=
  W.F_job_faults.kbinds0 2 ["turn"] [] (fun us mv ws => J.pick [0, 1, 2] (us ++ mv ++ ws)) (by nofun) (fun q h => by simpa using h) (fun r1 r2 r3 => J.pick_vals ((r1.append r2).append r3) _) (fun D doc pm an cdv ct us mv ws h1 h2 h3 => by
    match us, mv, ws, h1, h2, h3 with
    | [u0, u1], [], [w0], _, _, _ => exact rfl)
structure G_law_bag where
  p0 : PySem.Addr
  a0 : List Int
  out : ((List Int) × (Int × Int))
abbrev R_law_bag {K : PySem.W.Frag} {mg : Str → Option Value} (W : Wd K mg) (r : ((List Int) × (Int × Int))) : J.Slot := (sO9 (cL9 [(sO9 (cL9 ((r.1 : List Int).map sV9))), (sV9 (r.2.1 : Int)), (sV9 (r.2.2 : Int))]))
abbrev C_law_bag {K : PySem.W.Frag} {mg : Str → Option Value} (W : Wd K mg) (p0 : PySem.Addr) (a0 : List Int) (r : ((List Int) × (Int × Int))) : List (PySem.Addr × J.Cel) := []
abbrev A_law_bag {K : PySem.W.Frag} {mg : Str → Option Value} (W : Wd K mg) (p0 : PySem.Addr) (a0 : List Int) : List J.Slot := [(sR9 (.ref p0))]
abbrev D_law_bag {K : PySem.W.Frag} {mg : Str → Option Value} (W : Wd K mg) (p0 : PySem.Addr) (a0 : List Int) : List (PySem.Addr × J.Cel) := []
def F_law_bag {K : PySem.W.Frag} {mg : Str → Option Value} (W : Wd K mg)  : J.FS G_law_bag where
  pre := fun g => m_law_bag g.a0 = some g.out
  preG := fun g G => L2.SqL K G g.p0 (g.a0.map V.int)
  args := fun g => A_law_bag W g.p0 g.a0
  cells := fun g => D_law_bag W g.p0 g.a0
  res := fun g => R_law_bag W g.out
  cells' := fun g => C_law_bag W g.p0 g.a0 g.out
theorem ok_law_bag (W : Wd K mg) : FnOk P w K mg base CX0 1 W.a__law_bag W.d__law_bag ["script"] (F_law_bag (W)).sp := by
  refine J.fn_okD (F_law_bag (W)) W.F__law_bag sc__law_bag (fun g => rfl) (fun g => by intro s hs; simp only [F_law_bag, List.mem_cons, List.not_mem_nil, or_false] at hs; rcases hs with rfl <;> first | rfl | exact J.xsl_plain) (fun cdv A outer s H E hr B g h hG => ?_)
  have hN := (sc__law_bag).nd
  obtain ⟨p0, a0, r0⟩ := g
  change m_law_bag a0 = some r0 at h
  unfold m_law_bag at h
  change J.JS _ B (⟨[(sR9 (.ref p0)), sA9, sA9, sA9], []⟩ : J.Stt) _ (J.fend B (F_law_bag (W)) ⟨p0, a0, r0⟩)
  refine J.js_new (hN := hN) 1 (J.je_lstv (xs := ([] : List Int)) J.ja_nil) fun p1 => ?_
  refine J.js_set (hN := hN) 2 J.je_int ?_
  obtain ⟨s15, hs15, h⟩ := J.bndE h
  refine J.js_forE (π := Unit) (f := m_law_bag_b0) (Sf := fun (q3 : Unit) (s2 : ((List Int) × Int)) => (⟨[(sR9 (.ref p0)), (sR9 (.ref p1)), (sV9 (s2.2 : Int)), sA9], [(p1, (cL9 ((s2.1 : List Int).map sV9)))]⟩ : J.Stt)) (Sb := fun (q3 : Unit) (s2 : ((List Int) × Int)) (x4 : Int) => (⟨[(sR9 (.ref p0)), (sR9 (.ref p1)), (sV9 (s2.2 : Int)), (sV9 (x4 : Int))], [(p1, (cL9 ((s2.1 : List Int).map sV9)))]⟩ : J.Stt)) hs15 (J.ji_pre (ns := a0) (J.je_var 0 rfl) hG) (fun _ _ _ _ g => ⟨(), J.le_fgt (sl := [(sR9 (.ref p0)), (sR9 (.ref p1)), (sV9 ((([] : List Int), 5).2 : Int)), sA9]) (cs := [(p1, (cL9 (((([] : List Int), 5).1 : List Int).map sV9)))]) 1 (.keep (.keep (.keep (.drop .nil)))) rfl _ _ _ _ g⟩) (fun _ _ => trivial) (fun q3 s2 x4 => (J.jg_name 3 (hN := hN))) (fun q3 s2 x4 sY _ h => ?_) (fun q3 => ?_)
  · unfold m_law_bag_b0 at h
    change J.JS _ _ (⟨[(sR9 (.ref p0)), (sR9 (.ref p1)), (sV9 (s2.2 : Int)), (sV9 (x4 : Int))], [(p1, (cL9 ((s2.1 : List Int).map sV9)))]⟩ : J.Stt) _ _
    obtain ⟨s9, hs9, h⟩ := J.bndE h
    refine J.js_ifE (π := Unit) (Sq := fun (q10 : Unit) => (⟨[(sR9 (.ref p0)), (sR9 (.ref p1)), (sV9 (s2.2 : Int)), (sV9 (s9 : Int))], [(p1, (cL9 ((s2.1 : List Int).map sV9)))]⟩ : J.Stt)) (J.jt_lt (J.je_var 3 rfl) J.je_int) (fun hp => ?_) (fun hp => ?_) (fun q10 => ?_)
    · have h := J.ifT hp hs9
      refine J.js_set (hN := hN) 3 (J.je_sub J.je_int (J.je_var 3 rfl)) ?_
      have h9 := Option.some.inj h
      subst h9
      exact J.js_loopEnd (Sq := fun (q10 : Unit) (s9 : Int) => (⟨[(sR9 (.ref p0)), (sR9 (.ref p1)), (sV9 (s2.2 : Int)), (sV9 (s9 : Int))], [(p1, (cL9 ((s2.1 : List Int).map sV9)))]⟩ : J.Stt)) (s' := (3 - x4)) 1 () (.keep (.keep (.keep (.keep .nil)))) rfl rfl
    · have h := J.ifF hp hs9
      have h9 := Option.some.inj h
      subst h9
      exact J.js_loopEnd (Sq := fun (q10 : Unit) (s9 : Int) => (⟨[(sR9 (.ref p0)), (sR9 (.ref p1)), (sV9 (s2.2 : Int)), (sV9 (s9 : Int))], [(p1, (cL9 ((s2.1 : List Int).map sV9)))]⟩ : J.Stt)) (s' := x4) 1 () (.keep (.keep (.keep (.keep .nil)))) rfl rfl
    obtain ⟨x11, hx11, h⟩ := J.bndE h
    refine J.js_set (hN := hN) 2 (J.je_let (J.je_mod (J.je_add (J.je_add (J.je_mulR (J.je_var 2 rfl) J.je_int (by decide)) (J.je_var 3 rfl)) J.je_int) (J.je_sub (J.je_powG 61 J.je_int J.je_int (by decide) (show J.powG 2 61 = some 2305843009213693952 by decide +kernel)) J.je_int) (by decide)) hx11) ?_
    obtain ⟨s12, hs12, h⟩ := J.bndE h
    refine J.js_ifE (π := Unit) (Sq := fun (q13 : Unit) => (⟨[(sR9 (.ref p0)), (sR9 (.ref p1)), (sV9 (x11 : Int)), (sV9 (s9 : Int))], [(p1, (cL9 ((s12 : List Int).map sV9)))]⟩ : J.Stt)) (J.jt_ge (J.je_var 3 rfl) (J.je_powG 18 J.je_int J.je_int (by decide) (show J.powG 10 18 = some 1000000000000000000 by decide +kernel))) (fun hp => ?_) (fun hp => ?_) (fun q13 => ?_)
    · have h := J.ifT hp hs12
      obtain ⟨x14, hx14, h⟩ := J.bndE h
      refine J.js_expr (J.je_appG (xs := s2.1) (t := ((s9 - 1000000000000000000) : Int)) 0 (J.je_var 1 rfl) rfl (J.je_sub (J.je_var 3 rfl) (J.je_powG 18 J.je_int J.je_int (by decide) (show J.powG 10 18 = some 1000000000000000000 by decide +kernel))) rfl hx14) ?_
      have h9 := Option.some.inj h
      subst h9
      exact J.js_loopEnd (Sq := fun (q13 : Unit) (s12 : (List Int)) => (⟨[(sR9 (.ref p0)), (sR9 (.ref p1)), (sV9 (x11 : Int)), (sV9 (s9 : Int))], [(p1, (cL9 ((s12 : List Int).map sV9)))]⟩ : J.Stt)) (s' := x14) 1 () (.keep (.keep (.keep (.keep .nil)))) rfl rfl
    · have h := J.ifF hp hs12
      have h9 := Option.some.inj h
      subst h9
      exact J.js_loopEnd (Sq := fun (q13 : Unit) (s12 : (List Int)) => (⟨[(sR9 (.ref p0)), (sR9 (.ref p1)), (sV9 (x11 : Int)), (sV9 (s9 : Int))], [(p1, (cL9 ((s12 : List Int).map sV9)))]⟩ : J.Stt)) (s' := s2.1) 1 () (.keep (.keep (.keep (.keep .nil)))) rfl rfl
    have h9 := Option.some.inj h
    subst h9
    exact J.js_nil fun T tv σ H g => ⟨(), J.le_fgt (sl := [(sR9 (.ref p0)), (sR9 (.ref p1)), (sV9 ((s12, x11).2 : Int)), sA9]) (cs := [(p1, (cL9 (((s12, x11).1 : List Int).map sV9)))]) 1 (.keep (.keep (.keep (.drop .nil)))) rfl _ _ _ _ g⟩
  change J.JS _ _ (⟨[(sR9 (.ref p0)), (sR9 (.ref p1)), (sV9 (s15.2 : Int)), sA9], [(p1, (cL9 ((s15.1 : List Int).map sV9)))]⟩ : J.Stt) _ _
  have h9 := Option.some.inj h
  subst h9
  exact J.js_ret (J.je_fold 0 0 (J.je_lst (J.ja_cons (J.je_var 1 rfl) (J.ja_cons (J.je_var 2 rfl) (J.ja_cons J.je_int J.ja_nil))) (Nat.le_of_ble_eq_true rfl)) rfl rfl) fun v H o => J.Out.take 0 o
structure G_law_draw where
  p0 : PySem.Addr
  a1 : Int
  a0_0 : (List Int)
  a0_1 : Int
  a0_2 : Int
  out : (Int × ((List Int) × Int))
abbrev R_law_draw {K : PySem.W.Frag} {mg : Str → Option Value} (W : Wd K mg) (r : (Int × ((List Int) × Int))) : J.Slot := (sV9 (r.1 : Int))
abbrev C_law_draw {K : PySem.W.Frag} {mg : Str → Option Value} (W : Wd K mg) (p0 : PySem.Addr) (a1 : Int) (a0_0 : (List Int)) (a0_1 : Int) (a0_2 : Int) (r : (Int × ((List Int) × Int))) : List (PySem.Addr × J.Cel) := [(p0, (cL9 [(sO9 (cL9 ((r.2.1 : List Int).map sV9))), (sV9 (a0_1 : Int)), (sV9 (r.2.2 : Int))]))]
abbrev A_law_draw {K : PySem.W.Frag} {mg : Str → Option Value} (W : Wd K mg) (p0 : PySem.Addr) (a1 : Int) (a0_0 : (List Int)) (a0_1 : Int) (a0_2 : Int) : List J.Slot := [(sR9 (.ref p0)), (sV9 (a1 : Int))]
abbrev D_law_draw {K : PySem.W.Frag} {mg : Str → Option Value} (W : Wd K mg) (p0 : PySem.Addr) (a1 : Int) (a0_0 : (List Int)) (a0_1 : Int) (a0_2 : Int) : List (PySem.Addr × J.Cel) := [(p0, (cL9 [(sO9 (cL9 ((a0_0 : List Int).map sV9))), (sV9 (a0_1 : Int)), (sV9 (a0_2 : Int))]))]
def F_law_draw {K : PySem.W.Frag} {mg : Str → Option Value} (W : Wd K mg)  : J.FS G_law_draw where
  pre := fun g => m_law_draw g.a1 g.a0_0 g.a0_1 g.a0_2 = some g.out
  preG := fun _ _ => True
  args := fun g => A_law_draw W g.p0 g.a1 g.a0_0 g.a0_1 g.a0_2
  cells := fun g => D_law_draw W g.p0 g.a1 g.a0_0 g.a0_1 g.a0_2
  res := fun g => R_law_draw W g.out
  cells' := fun g => C_law_draw W g.p0 g.a1 g.a0_0 g.a0_1 g.a0_2 g.out
theorem ok_law_draw (W : Wd K mg) : FnOk P w K mg base CX0 1 W.a__law_draw W.d__law_draw ["bag", "many"] (F_law_draw (W)).sp := by
  refine J.fn_okD (F_law_draw (W)) W.F__law_draw sc__law_draw (fun g => rfl) (fun g => by intro s hs; simp only [F_law_draw, List.mem_cons, List.not_mem_nil, or_false] at hs; rcases hs with rfl | rfl <;> first | rfl | exact J.xsl_plain) (fun cdv A outer s H E hr B g h hG => ?_)
  have hN := (sc__law_draw).nd
  obtain ⟨p0, a1, a0_0, a0_1, a0_2, r0⟩ := g
  change m_law_draw a1 a0_0 a0_1 a0_2 = some r0 at h
  unfold m_law_draw at h
  change J.JS _ B (⟨[(sR9 (.ref p0)), (sV9 (a1 : Int)), sA9, sA9, sA9], [(p0, (cL9 [(sO9 (cL9 ((a0_0 : List Int).map sV9))), (sV9 (a0_1 : Int)), (sV9 (a0_2 : Int))]))]⟩ : J.Stt) _ (J.fend B (F_law_draw (W)) ⟨p0, a1, a0_0, a0_1, a0_2, r0⟩)
  refine J.js_asg (J.je_add (J.je_ixC (s := (sV9 (a0_2 : Int))) 0 (J.je_var 0 rfl) J.je_int rfl rfl) J.je_int) (J.jg_setA 0 2 (J.je_var 0 rfl) J.je_int rfl rfl) ?_
  change J.JS _ _ (⟨[(sR9 (.ref p0)), (sV9 (a1 : Int)), sA9, sA9, sA9], [(p0, (cL9 [(sO9 (cL9 ((a0_0 : List Int).map sV9))), (sV9 (a0_1 : Int)), (sV9 ((a0_2 + 1) : Int))]))]⟩ : J.Stt) _ _
  refine J.js_open 0 0 rfl rfl fun p1 => ?_
  change J.JS _ _ (⟨[(sR9 (.ref p0)), (sV9 (a1 : Int)), sA9, sA9, sA9], [(p0, (cL9 [(sR9 (.ref p1)), (sV9 (a0_1 : Int)), (sV9 ((a0_2 + 1) : Int))])), (p1, (cL9 ((a0_0 : List Int).map sV9)))]⟩ : J.Stt) _ _
  refine J.js_set (hN := hN) 2 (J.je_ixC (s := (sR9 (.ref p1))) 0 (J.je_var 0 rfl) J.je_int rfl rfl) ?_
  obtain ⟨s7, hs7, h⟩ := J.bndE h
  refine J.js_whileE (π := Unit) (c := m_law_draw_t0) (f := m_law_draw_w1) (Sf := fun (q3 : Unit) (s2 : (List Int)) => (⟨[(sR9 (.ref p0)), (sV9 (a1 : Int)), (sR9 (.ref p1)), sA9, sA9], [(p0, (cL9 [(sR9 (.ref p1)), (sV9 (a0_1 : Int)), (sV9 ((a0_2 + 1) : Int))])), (p1, (cL9 ((s2 : List Int).map sV9)))]⟩ : J.Stt)) hs7 (fun _ _ _ _ g => ⟨(), J.le_fgt (sl := [(sR9 (.ref p0)), (sV9 (a1 : Int)), (sR9 (.ref p1)), sA9, sA9]) (cs := [(p0, (cL9 [(sR9 (.ref p1)), (sV9 (a0_1 : Int)), (sV9 ((a0_2 + 1) : Int))])), (p1, (cL9 ((a0_0 : List Int).map sV9)))]) 2 (.keep (.keep (.keep (.drop (.drop .nil))))) rfl _ _ _ _ g⟩) (fun q3 s2 p h => ?_) (fun q3 s2 sY _ h => ?_) (fun q3 => ?_)
  · unfold m_law_draw_t0 at h
    obtain ⟨x5, hx5, h⟩ := J.bndE h
    have h9 := Option.some.inj h
    subst h9
    exact (J.JW.t (J.jw_andM hx5 (J.jt_ne' (t := (s2 : (List Int))) (r := (([] : List Int) : (List Int))) hr (J.je_var 2 rfl) (J.je_lstv (xs := ([] : List Int)) J.ja_nil) (J.dv_cellL 1 rfl) J.dv_ownL) fun _ r h => by
      obtain ⟨x4, hx4, h⟩ := J.bndE h
      have h9 := Option.some.inj h
      subst h9
      exact (J.jw_and1 (J.jt_eq' (t := (x4 : Int)) (r := (0 : Int)) hr (J.je_ixv (xs := s2) (J.je_var 2 rfl) J.je_int (J.lv_cell' 1 rfl) hx4) J.je_int J.dv_val J.dv_val))))
  · unfold m_law_draw_w1 at h
    change J.JS _ _ (⟨[(sR9 (.ref p0)), (sV9 (a1 : Int)), (sR9 (.ref p1)), sA9, sA9], [(p0, (cL9 [(sR9 (.ref p1)), (sV9 (a0_1 : Int)), (sV9 ((a0_2 + 1) : Int))])), (p1, (cL9 ((s2 : List Int).map sV9)))]⟩ : J.Stt) _ _
    obtain ⟨x6, hx6, h⟩ := J.bndE h
    refine J.js_expr (J.je_popG (xs := s2) 1 (J.je_var 2 rfl) rfl J.je_int rfl hx6) ?_
    have h9 := Option.some.inj h
    subst h9
    exact J.js_nil fun T tv σ H g => ⟨(), J.le_fgt (sl := [(sR9 (.ref p0)), (sV9 (a1 : Int)), (sR9 (.ref p1)), sA9, sA9]) (cs := [(p0, (cL9 [(sR9 (.ref p1)), (sV9 (a0_1 : Int)), (sV9 ((a0_2 + 1) : Int))])), (p1, (cL9 (((x6.2) : List Int).map sV9)))]) 2 (.keep (.keep (.keep (.drop (.drop .nil))))) rfl _ _ _ _ g⟩
  change J.JS _ _ (⟨[(sR9 (.ref p0)), (sV9 (a1 : Int)), (sR9 (.ref p1)), sA9, sA9], [(p0, (cL9 [(sR9 (.ref p1)), (sV9 (a0_1 : Int)), (sV9 ((a0_2 + 1) : Int))])), (p1, (cL9 ((s7 : List Int).map sV9)))]⟩ : J.Stt) _ _
  refine J.js_if (J.jt_ne' (t := (s7 : (List Int))) (r := (([] : List Int) : (List Int))) hr (J.je_var 2 rfl) (J.je_lstv (xs := ([] : List Int)) J.ja_nil) (J.dv_cellL 1 rfl) J.dv_ownL) (fun hp => ?_) (fun hp => ?_)
  · replace h := J.ifT hp h
    obtain ⟨x8, hx8, h⟩ := J.bndE h
    obtain ⟨x9, hx9, h⟩ := J.bndE h
    refine J.js_set (hN := hN) 4 (J.je_modG (J.je_ixv (xs := s7) (J.je_var 2 rfl) J.je_int (J.lv_cell' 1 rfl) hx8) (J.je_var 1 rfl) hx9) ?_
    obtain ⟨x10, hx10, h⟩ := J.bndE h
    obtain ⟨x11, hx11, h⟩ := J.bndE h
    obtain ⟨x12, hx12, h⟩ := J.bndE h
    refine J.js_asg (J.je_divG (J.je_ixv (xs := s7) (J.je_var 2 rfl) J.je_int (J.lv_cell' 1 rfl) hx10) (J.je_var 1 rfl) hx11) (J.jg_subG (xs := s7) 1 (J.je_var 2 rfl) J.je_int rfl hx12) ?_
    have h9 := Option.some.inj h
    subst h9
    exact J.js_ret (J.je_le (J.je_le (J.je_var 4 rfl) (J.le_fold 0 1 0 rfl rfl rfl (by decide) (by nofun))) (J.le_take 1)) fun v H o => J.Out.take 1 o
  · replace h := J.ifF hp h
    refine J.js_end ?_
    change J.JS _ _ (⟨[(sR9 (.ref p0)), (sV9 (a1 : Int)), (sR9 (.ref p1)), sA9, sA9], [(p0, (cL9 [(sR9 (.ref p1)), (sV9 (a0_1 : Int)), (sV9 ((a0_2 + 1) : Int))])), (p1, (cL9 ((s7 : List Int).map sV9)))]⟩ : J.Stt) _ _
    refine J.js_fold 0 1 0 1 rfl rfl rfl (by decide) (by nofun) ?_
    change J.JS _ _ (⟨[(sR9 (.ref p0)), (sV9 (a1 : Int)), (sR9 (.ref p1)), sA9, sA9], [(p0, (cL9 [(sO9 (cL9 ((s7 : List Int).map sV9))), (sV9 (a0_1 : Int)), (sV9 ((a0_2 + 1) : Int))]))]⟩ : J.Stt) _ _
    obtain ⟨x13, hx13, h⟩ := J.bndE h
    obtain ⟨x14, hx14, h⟩ := J.bndE h
    obtain ⟨x15, hx15, h⟩ := J.bndE h
    refine J.js_set (hN := hN) 3 (J.je_let (J.je_mod (J.je_add (J.je_mulG (J.je_add (J.je_ixC (s := (sV9 (a0_1 : Int))) 0 (J.je_var 0 rfl) J.je_int rfl rfl) J.je_int) (J.je_powG 3 (J.je_add (J.je_ixC (s := (sV9 ((a0_2 + 1) : Int))) 0 (J.je_var 0 rfl) J.je_int rfl rfl) J.je_int) J.je_int (by decide) hx13) hx14) (J.je_mulL J.je_int (J.je_ixC (s := (sV9 ((a0_2 + 1) : Int))) 0 (J.je_var 0 rfl) J.je_int rfl rfl) (by decide))) (J.je_sub (J.je_powG 61 J.je_int J.je_int (by decide) (show J.powG 2 61 = some 2305843009213693952 by decide +kernel)) J.je_int) (by decide)) hx15) ?_
    obtain ⟨x16, hx16, h⟩ := J.bndE h
    obtain ⟨x17, hx17, h⟩ := J.bndE h
    have h9 := Option.some.inj h
    subst h9
    exact J.js_ret (J.je_modG (J.je_div (J.je_mod (J.je_powG 3 (J.je_var 3 rfl) J.je_int (by decide) hx16) (J.je_add (J.je_powG 18 J.je_int J.je_int (by decide) (show J.powG 10 18 = some 1000000000000000000 by decide +kernel)) J.je_int) (by decide)) J.je_int (by decide)) (J.je_var 1 rfl) hx17) fun v H o => J.Out.take 1 o
structure G_law_pages where
  p0 : PySem.Addr
  a0_0 : (List Int)
  a0_1 : Int
  a0_2 : Int
  out : ((List Int) × ((List Int) × Int))
abbrev R_law_pages {K : PySem.W.Frag} {mg : Str → Option Value} (W : Wd K mg) (r : ((List Int) × ((List Int) × Int))) : J.Slot := (sO9 (cL9 ((r.1 : List Int).map sV9)))
abbrev C_law_pages {K : PySem.W.Frag} {mg : Str → Option Value} (W : Wd K mg) (p0 : PySem.Addr) (a0_0 : (List Int)) (a0_1 : Int) (a0_2 : Int) (r : ((List Int) × ((List Int) × Int))) : List (PySem.Addr × J.Cel) := [(p0, (cL9 [(sO9 (cL9 ((r.2.1 : List Int).map sV9))), (sV9 (a0_1 : Int)), (sV9 (r.2.2 : Int))]))]
abbrev A_law_pages {K : PySem.W.Frag} {mg : Str → Option Value} (W : Wd K mg) (p0 : PySem.Addr) (a0_0 : (List Int)) (a0_1 : Int) (a0_2 : Int) : List J.Slot := [(sR9 (.ref p0))]
abbrev D_law_pages {K : PySem.W.Frag} {mg : Str → Option Value} (W : Wd K mg) (p0 : PySem.Addr) (a0_0 : (List Int)) (a0_1 : Int) (a0_2 : Int) : List (PySem.Addr × J.Cel) := [(p0, (cL9 [(sO9 (cL9 ((a0_0 : List Int).map sV9))), (sV9 (a0_1 : Int)), (sV9 (a0_2 : Int))]))]
def F_law_pages {K : PySem.W.Frag} {mg : Str → Option Value} (W : Wd K mg)  : J.FS G_law_pages where
  pre := fun g => m_law_pages g.a0_0 g.a0_1 g.a0_2 = some g.out
  preG := fun _ _ => True
  args := fun g => A_law_pages W g.p0 g.a0_0 g.a0_1 g.a0_2
  cells := fun g => D_law_pages W g.p0 g.a0_0 g.a0_1 g.a0_2
  res := fun g => R_law_pages W g.out
  cells' := fun g => C_law_pages W g.p0 g.a0_0 g.a0_1 g.a0_2 g.out
theorem ok_law_pages (W : Wd K mg) : FnOk P w K mg base CX0 2 W.a__law_pages W.d__law_pages ["bag"] (F_law_pages (W)).sp := by
  refine J.fn_okD (F_law_pages (W)) W.F__law_pages sc__law_pages (fun g => rfl) (fun g => by intro s hs; simp only [F_law_pages, List.mem_cons, List.not_mem_nil, or_false] at hs; rcases hs with rfl <;> first | rfl | exact J.xsl_plain) (fun cdv A outer s H E hr B g h hG => ?_)
  have hN := (sc__law_pages).nd
  obtain ⟨p0, a0_0, a0_1, a0_2, r0⟩ := g
  change m_law_pages a0_0 a0_1 a0_2 = some r0 at h
  unfold m_law_pages at h
  change J.JS _ B (⟨[(sR9 (.ref p0)), sA9, sA9], [(p0, (cL9 [(sO9 (cL9 ((a0_0 : List Int).map sV9))), (sV9 (a0_1 : Int)), (sV9 (a0_2 : Int))]))]⟩ : J.Stt) _ (J.fend B (F_law_pages (W)) ⟨p0, a0_0, a0_1, a0_2, r0⟩)
  obtain ⟨x1, hx1, h⟩ := J.bndE h
  obtain ⟨x2, hx2, h⟩ := J.bndE h
  refine J.js_set (hN := hN) 1 (J.je_let (J.je_frL (J.je_lstv (xs := ([0, 1, 2, 9, 10, 100, (1000000000 - 1), 1000000000, (11 + x1.1)] : List Int)) (J.ja_cons J.je_int (J.ja_cons J.je_int (J.ja_cons J.je_int (J.ja_cons J.je_int (J.ja_cons J.je_int (J.ja_cons J.je_int (J.ja_cons (J.je_sub (J.je_powG 9 J.je_int J.je_int (by decide) (show J.powG 10 9 = some 1000000000 by decide +kernel)) J.je_int) (J.ja_cons (J.je_powG 9 J.je_int J.je_int (by decide) (show J.powG 10 9 = some 1000000000 by decide +kernel)) (J.ja_cons (J.je_add J.je_int (J.je_call (f := F_law_draw W) (ok_law_draw W) hr (by decide) W.g__law_draw W.F__law_draw.kp W.b__law_draw (J.ja_cons (J.je_var 0 rfl) (J.ja_cons J.je_int J.ja_nil)) (g := (⟨p0, 80, a0_0, a0_1, a0_2, x1⟩ : G_law_draw)) hx1 rfl (.cons 0 rfl (by nofun) .nil) (.cons 0 rfl .nil) (hG := fun G e => trivial))) J.ja_nil))))))))))) hx2) ?_
  change J.JS _ _ (⟨[(sR9 (.ref p0)), (sV9 (x2 : (List Int))), sA9], [(p0, (cL9 [(sO9 (cL9 ((x1.2.1 : List Int).map sV9))), (sV9 (a0_1 : Int)), (sV9 (x1.2.2 : Int))]))]⟩ : J.Stt) _ _
  obtain ⟨x3, hx3, h⟩ := J.bndE h
  refine J.js_set (hN := hN) 2 (J.je_call (f := F_law_draw W) (ok_law_draw W) hr (by decide) W.g__law_draw W.F__law_draw.kp W.b__law_draw (J.ja_cons (J.je_var 0 rfl) (J.ja_cons J.je_int J.ja_nil)) (g := (⟨p0, 9, x1.2.1, a0_1, x1.2.2, x3⟩ : G_law_draw)) hx3 rfl (.cons 0 rfl (by nofun) .nil) (.cons 0 rfl .nil) (hG := fun G e => trivial)) ?_
  change J.JS _ _ (⟨[(sR9 (.ref p0)), (sV9 (x2 : (List Int))), (sV9 (x3.1 : Int))], [(p0, (cL9 [(sO9 (cL9 ((x3.2.1 : List Int).map sV9))), (sV9 (a0_1 : Int)), (sV9 (x3.2.2 : Int))]))]⟩ : J.Stt) _ _
  obtain ⟨x4, hx4, h⟩ := J.bndE h
  have h9 := Option.some.inj h
  subst h9
  exact J.js_ret (J.je_catG (xs := (J.slc x2 (some x3.1) none)) (ys := (J.slc x2 none (some x3.1))) (J.je_slcv (xs := x2) (J.je_var 1 rfl) (J.jo_some (J.je_var 2 rfl)) J.jo_none J.lv_val) (J.je_slcv (xs := x2) (J.je_var 1 rfl) J.jo_none (J.jo_some (J.je_var 2 rfl)) J.lv_val) J.lh_own J.lh_own hx4) fun v H o => J.Out.take 1 o
structure G_law_line where
  p0 : PySem.Addr
  a1 : Int
  a0_0 : (List Int)
  a0_1 : Int
  a0_2 : Int
  out : ((List Int) × ((List Int) × Int))
abbrev R_law_line {K : PySem.W.Frag} {mg : Str → Option Value} (W : Wd K mg) (r : ((List Int) × ((List Int) × Int))) : J.Slot := (sO9 (cL9 ((r.1 : List Int).map sV9)))
abbrev C_law_line {K : PySem.W.Frag} {mg : Str → Option Value} (W : Wd K mg) (p0 : PySem.Addr) (a1 : Int) (a0_0 : (List Int)) (a0_1 : Int) (a0_2 : Int) (r : ((List Int) × ((List Int) × Int))) : List (PySem.Addr × J.Cel) := [(p0, (cL9 [(sO9 (cL9 ((r.2.1 : List Int).map sV9))), (sV9 (a0_1 : Int)), (sV9 (r.2.2 : Int))]))]
abbrev A_law_line {K : PySem.W.Frag} {mg : Str → Option Value} (W : Wd K mg) (p0 : PySem.Addr) (a1 : Int) (a0_0 : (List Int)) (a0_1 : Int) (a0_2 : Int) : List J.Slot := [(sR9 (.ref p0)), (sV9 (a1 : Int))]
abbrev D_law_line {K : PySem.W.Frag} {mg : Str → Option Value} (W : Wd K mg) (p0 : PySem.Addr) (a1 : Int) (a0_0 : (List Int)) (a0_1 : Int) (a0_2 : Int) : List (PySem.Addr × J.Cel) := [(p0, (cL9 [(sO9 (cL9 ((a0_0 : List Int).map sV9))), (sV9 (a0_1 : Int)), (sV9 (a0_2 : Int))]))]
def F_law_line {K : PySem.W.Frag} {mg : Str → Option Value} (W : Wd K mg)  : J.FS G_law_line where
  pre := fun g => m_law_line g.a1 g.a0_0 g.a0_1 g.a0_2 = some g.out
  preG := fun _ _ => True
  args := fun g => A_law_line W g.p0 g.a1 g.a0_0 g.a0_1 g.a0_2
  cells := fun g => D_law_line W g.p0 g.a1 g.a0_0 g.a0_1 g.a0_2
  res := fun g => R_law_line W g.out
  cells' := fun g => C_law_line W g.p0 g.a1 g.a0_0 g.a0_1 g.a0_2 g.out
theorem ok_law_line (W : Wd K mg) : FnOk P w K mg base CX0 3 W.a__law_line W.d__law_line ["bag", "most"] (F_law_line (W)).sp := by
  refine J.fn_okD (F_law_line (W)) W.F__law_line sc__law_line (fun g => rfl) (fun g => by intro s hs; simp only [F_law_line, List.mem_cons, List.not_mem_nil, or_false] at hs; rcases hs with rfl | rfl <;> first | rfl | exact J.xsl_plain) (fun cdv A outer s H E hr B g h hG => ?_)
  have hN := (sc__law_line).nd
  obtain ⟨p0, a1, a0_0, a0_1, a0_2, r0⟩ := g
  change m_law_line a1 a0_0 a0_1 a0_2 = some r0 at h
  unfold m_law_line at h
  change J.JS _ B (⟨[(sR9 (.ref p0)), (sV9 (a1 : Int)), sA9, sA9, sA9, sA9, sA9, sA9, sA9, sA9], [(p0, (cL9 [(sO9 (cL9 ((a0_0 : List Int).map sV9))), (sV9 (a0_1 : Int)), (sV9 (a0_2 : Int))]))]⟩ : J.Stt) _ (J.fend B (F_law_line (W)) ⟨p0, a1, a0_0, a0_1, a0_2, r0⟩)
  obtain ⟨x1, hx1, h⟩ := J.bndE h
  refine J.js_set (hN := hN) 2 (J.je_frL (J.je_call (f := F_law_pages W) (ok_law_pages W) hr (by decide) W.g__law_pages W.F__law_pages.kp W.b__law_pages (J.ja_cons (J.je_var 0 rfl) J.ja_nil) (g := (⟨p0, a0_0, a0_1, a0_2, x1⟩ : G_law_pages)) hx1 rfl (.cons 0 rfl (by nofun) .nil) (.cons 0 rfl .nil) (hG := fun G e => trivial))) ?_
  change J.JS _ _ (⟨[(sR9 (.ref p0)), (sV9 (a1 : Int)), (sV9 (x1.1 : (List Int))), sA9, sA9, sA9, sA9, sA9, sA9, sA9], [(p0, (cL9 [(sO9 (cL9 ((x1.2.1 : List Int).map sV9))), (sV9 (a0_1 : Int)), (sV9 (x1.2.2 : Int))]))]⟩ : J.Stt) _ _
  obtain ⟨x2, hx2, h⟩ := J.bndE h
  refine J.js_set (hN := hN) 3 (J.je_add J.je_int (J.je_call (f := F_law_draw W) (ok_law_draw W) hr (by decide) W.g__law_draw W.F__law_draw.kp W.b__law_draw (J.ja_cons (J.je_var 0 rfl) (J.ja_cons J.je_int J.ja_nil)) (g := (⟨p0, 9, x1.2.1, a0_1, x1.2.2, x2⟩ : G_law_draw)) hx2 rfl (.cons 0 rfl (by nofun) .nil) (.cons 0 rfl .nil) (hG := fun G e => trivial))) ?_
  change J.JS _ _ (⟨[(sR9 (.ref p0)), (sV9 (a1 : Int)), (sV9 (x1.1 : (List Int))), (sV9 ((1 + x2.1) : Int)), sA9, sA9, sA9, sA9, sA9, sA9], [(p0, (cL9 [(sO9 (cL9 ((x2.2.1 : List Int).map sV9))), (sV9 (a0_1 : Int)), (sV9 (x2.2.2 : Int))]))]⟩ : J.Stt) _ _
  obtain ⟨x3, hx3, h⟩ := J.bndE h
  obtain ⟨s4, hs4, h⟩ := J.bndE h
  refine J.js_ifE (π := Unit) (Sq := fun (q5 : Unit) => (⟨[(sR9 (.ref p0)), (sV9 (a1 : Int)), (sV9 (s4.2.2.1 : (List Int))), (sV9 (s4.2.2.2 : Int)), sA9, sA9, sA9, sA9, sA9, sA9], [(p0, (cL9 [(sO9 (cL9 ((s4.1 : List Int).map sV9))), (sV9 (a0_1 : Int)), (sV9 (s4.2.1 : Int))]))]⟩ : J.Stt)) (J.jt_eq' (t := (x3.1 : Int)) (r := (3 : Int)) hr (J.je_call (f := F_law_draw W) (ok_law_draw W) hr (by decide) W.g__law_draw W.F__law_draw.kp W.b__law_draw (J.ja_cons (J.je_var 0 rfl) (J.ja_cons J.je_int J.ja_nil)) (g := (⟨p0, 4, x2.2.1, a0_1, x2.2.2, x3⟩ : G_law_draw)) hx3 rfl (.cons 0 rfl (by nofun) .nil) (.cons 0 rfl .nil) (hG := fun G e => trivial)) J.je_int J.dv_val J.dv_val) (fun hp => ?_) (fun hp => ?_) (fun q5 => ?_)
  · have h := J.ifT hp hs4
    change J.JS _ _ (⟨[(sR9 (.ref p0)), (sV9 (a1 : Int)), (sV9 (x1.1 : (List Int))), (sV9 ((1 + x2.1) : Int)), sA9, sA9, sA9, sA9, sA9, sA9], [(p0, (cL9 [(sO9 (cL9 ((x3.2.1 : List Int).map sV9))), (sV9 (a0_1 : Int)), (sV9 (x3.2.2 : Int))]))]⟩ : J.Stt) _ _
    obtain ⟨x6, hx6, h⟩ := J.bndE h
    refine J.js_set (hN := hN) 7 (J.je_call (f := F_law_draw W) (ok_law_draw W) hr (by decide) W.g__law_draw W.F__law_draw.kp W.b__law_draw (J.ja_cons (J.je_var 0 rfl) (J.ja_cons (J.je_powG 8 J.je_int J.je_int (by decide) (show J.powG 10 8 = some 100000000 by decide +kernel)) J.ja_nil)) (g := (⟨p0, 100000000, x3.2.1, a0_1, x3.2.2, x6⟩ : G_law_draw)) hx6 rfl (.cons 0 rfl (by nofun) .nil) (.cons 0 rfl .nil) (hG := fun G e => trivial)) ?_
    change J.JS _ _ (⟨[(sR9 (.ref p0)), (sV9 (a1 : Int)), (sV9 (x1.1 : (List Int))), (sV9 ((1 + x2.1) : Int)), sA9, sA9, sA9, (sV9 (x6.1 : Int)), sA9, sA9], [(p0, (cL9 [(sO9 (cL9 ((x6.2.1 : List Int).map sV9))), (sV9 (a0_1 : Int)), (sV9 (x6.2.2 : Int))]))]⟩ : J.Stt) _ _
    obtain ⟨x7, hx7, h⟩ := J.bndE h
    refine J.js_set (hN := hN) 8 (J.je_add J.je_int (J.je_call (f := F_law_draw W) (ok_law_draw W) hr (by decide) W.g__law_draw W.F__law_draw.kp W.b__law_draw (J.ja_cons (J.je_var 0 rfl) (J.ja_cons (J.je_powG 6 J.je_int J.je_int (by decide) (show J.powG 10 6 = some 1000000 by decide +kernel)) J.ja_nil)) (g := (⟨p0, 1000000, x6.2.1, a0_1, x6.2.2, x7⟩ : G_law_draw)) hx7 rfl (.cons 0 rfl (by nofun) .nil) (.cons 0 rfl .nil) (hG := fun G e => trivial))) ?_
    change J.JS _ _ (⟨[(sR9 (.ref p0)), (sV9 (a1 : Int)), (sV9 (x1.1 : (List Int))), (sV9 ((1 + x2.1) : Int)), sA9, sA9, sA9, (sV9 (x6.1 : Int)), (sV9 ((1 + x7.1) : Int)), sA9], [(p0, (cL9 [(sO9 (cL9 ((x7.2.1 : List Int).map sV9))), (sV9 (a0_1 : Int)), (sV9 (x7.2.2 : Int))]))]⟩ : J.Stt) _ _
    obtain ⟨x8, hx8, h⟩ := J.bndE h
    obtain ⟨x9, hx9, h⟩ := J.bndE h
    obtain ⟨x14, hx14, h⟩ := J.bndE h
    refine J.js_setLc 2 (z := (sV9 (x14.1 : (List Int)))) (f := m_law_line_c0 x6 x7) (el := sV9) (Sf := fun (s10 : Unit) => (⟨[(sR9 (.ref p0)), (sV9 (a1 : Int)), (sV9 (x1.1 : (List Int))), (sV9 ((1 + x2.1) : Int)), sA9, sA9, sA9, (sV9 (x6.1 : Int)), (sV9 ((1 + x7.1) : Int)), sA9], [(p0, (cL9 [(sO9 (cL9 ((x8.2.1 : List Int).map sV9))), (sV9 (a0_1 : Int)), (sV9 (x8.2.2 : Int))]))]⟩ : J.Stt)) (Sb := fun (s10 : Unit) (x12 : Int) => (⟨[(sR9 (.ref p0)), (sV9 (a1 : Int)), (sV9 (x1.1 : (List Int))), (sV9 ((1 + x2.1) : Int)), sA9, sA9, (sV9 (x12 : Int)), (sV9 (x6.1 : Int)), (sV9 ((1 + x7.1) : Int)), sA9], [(p0, (cL9 [(sO9 (cL9 ((x8.2.1 : List Int).map sV9))), (sV9 (a0_1 : Int)), (sV9 (x8.2.2 : Int))]))]⟩ : J.Stt)) (s0 := ()) (own := [(("k" : St9), 6)]) (ws := [6]) (J.lcM_of hx14).2 (J.lcM_of hx14).1 hN (L2.blkOk_by (N := ["bag", "most", "some", "many", "kind", "found", "k", "first", "step", "at"]) (sc := defScope s__law_line) (by decide +kernel)) (J.ji_rngG W.l_range (J.je_add J.je_int (J.je_call (f := F_law_draw W) (ok_law_draw W) hr (by decide) W.g__law_draw W.F__law_draw.kp W.b__law_draw (J.ja_cons (J.je_var 0 rfl) (J.ja_cons J.je_int J.ja_nil)) (g := (⟨p0, 71, x7.2.1, a0_1, x7.2.2, x8⟩ : G_law_draw)) hx8 rfl (.cons 0 rfl (by nofun) .nil) (.cons 0 rfl .nil) (hG := fun G e => trivial))) hx9) (J.le_fgt 1 (.keep (.keep (.keep (.keep (.drop (.drop (.drop (.keep (.keep (.drop .nil)))))))))) rfl) (fun _ => trivial) (fun _ => J.any_at rfl) (by decide) (fun s10 x12 => fun s91 H91 C91 cl91 fp91 =>  J.inJG hN fun hN => (J.jg_name 6 (hN := hN))) (fun s10 x12 o sZ _ h => by
      unfold m_law_line_c0 at h
      obtain ⟨x13, hx13, h⟩ := J.bndE h
      obtain ⟨h8, h9⟩ := Prod.mk.inj (Option.some.inj h)
      subst h8
      subst h9
      exact ⟨true, _, (fun s91 H91 C91 cl91 fp91 =>  J.jts_nil), fun _ => ⟨_, _, rfl, (fun s91 H91 C91 cl91 fp91 =>  J.inJE hr hN fun hr hN => (J.je_add (J.je_var 7 rfl) (J.je_mulG (J.je_var 8 rfl) (J.je_var 6 rfl) hx13))), (J.le_fgt 1 (.keep (.keep (.keep (.keep (.drop (.drop (.drop (.keep (.keep (.drop .nil)))))))))) rfl)⟩, nofun⟩) (fun h => h.frz (.own (J.fz_val _)) fun G d => .val d) ?_
    change J.JS _ _ (⟨[(sR9 (.ref p0)), (sV9 (a1 : Int)), (sV9 (x14.1 : (List Int))), (sV9 ((1 + x2.1) : Int)), sA9, sA9, sA9, (sV9 (x6.1 : Int)), (sV9 ((1 + x7.1) : Int)), sA9], [(p0, (cL9 [(sO9 (cL9 ((x8.2.1 : List Int).map sV9))), (sV9 (a0_1 : Int)), (sV9 (x8.2.2 : Int))]))]⟩ : J.Stt) _ _
    refine J.js_set (hN := hN) 3 (J.je_len (n := "len") (xs := x14.1) W.l_len (J.je_var 2 rfl) J.lv_val) ?_
    have h9 := Option.some.inj h
    subst h9
    exact J.js_loopEnd (Sq := fun (q5 : Unit) (s4 : ((List Int) × (Int × ((List Int) × Int)))) => (⟨[(sR9 (.ref p0)), (sV9 (a1 : Int)), (sV9 (s4.2.2.1 : (List Int))), (sV9 (s4.2.2.2 : Int)), sA9, sA9, sA9, sA9, sA9, sA9], [(p0, (cL9 [(sO9 (cL9 ((s4.1 : List Int).map sV9))), (sV9 (a0_1 : Int)), (sV9 (s4.2.1 : Int))]))]⟩ : J.Stt)) (s' := (x8.2.1, (x8.2.2, (x14.1, ((x14.1).length : Int))))) 1 () (.keep (.keep (.keep (.keep (.drop (.drop (.drop (.drop (.drop (.drop .nil)))))))))) rfl rfl
  · have h := J.ifF hp hs4
    change J.JS _ _ (⟨[(sR9 (.ref p0)), (sV9 (a1 : Int)), (sV9 (x1.1 : (List Int))), (sV9 ((1 + x2.1) : Int)), sA9, sA9, sA9, sA9, sA9, sA9], [(p0, (cL9 [(sO9 (cL9 ((x3.2.1 : List Int).map sV9))), (sV9 (a0_1 : Int)), (sV9 (x3.2.2 : Int))]))]⟩ : J.Stt) _ _
    have h9 := Option.some.inj h
    subst h9
    exact J.js_loopEnd (Sq := fun (q5 : Unit) (s4 : ((List Int) × (Int × ((List Int) × Int)))) => (⟨[(sR9 (.ref p0)), (sV9 (a1 : Int)), (sV9 (s4.2.2.1 : (List Int))), (sV9 (s4.2.2.2 : Int)), sA9, sA9, sA9, sA9, sA9, sA9], [(p0, (cL9 [(sO9 (cL9 ((s4.1 : List Int).map sV9))), (sV9 (a0_1 : Int)), (sV9 (s4.2.1 : Int))]))]⟩ : J.Stt)) (s' := (x3.2.1, (x3.2.2, (x1.1, (1 + x2.1))))) 1 () (.keep (.keep (.keep (.keep (.drop (.drop (.drop (.drop (.drop (.drop .nil)))))))))) rfl rfl
  obtain ⟨x15, hx15, h⟩ := J.bndE h
  refine J.js_set (hN := hN) 4 (J.je_call (f := F_law_draw W) (ok_law_draw W) hr (by decide) W.g__law_draw W.F__law_draw.kp W.b__law_draw (J.ja_cons (J.je_var 0 rfl) (J.ja_cons J.je_int J.ja_nil)) (g := (⟨p0, 4, s4.1, a0_1, s4.2.1, x15⟩ : G_law_draw)) hx15 rfl (.cons 0 rfl (by nofun) .nil) (.cons 0 rfl .nil) (hG := fun G e => trivial)) ?_
  change J.JS _ _ (⟨[(sR9 (.ref p0)), (sV9 (a1 : Int)), (sV9 (s4.2.2.1 : (List Int))), (sV9 (s4.2.2.2 : Int)), (sV9 (x15.1 : Int)), sA9, sA9, sA9, sA9, sA9], [(p0, (cL9 [(sO9 (cL9 ((x15.2.1 : List Int).map sV9))), (sV9 (a0_1 : Int)), (sV9 (x15.2.2 : Int))]))]⟩ : J.Stt) _ _
  refine J.js_new (hN := hN) 5 (J.je_lstv (xs := ([] : List Int)) J.ja_nil) fun p16 => ?_
  obtain ⟨x17, hx17, h⟩ := J.bndE h
  obtain ⟨x18, hx18, h⟩ := J.bndE h
  obtain ⟨s37, hs37, h⟩ := J.bndE h
  refine J.js_forE (π := Unit) (f := m_law_line_b1 a0_1 s4 x15) (Sf := fun (q20 : Unit) (s19 : ((List Int) × (Int × (List Int)))) => (⟨[(sR9 (.ref p0)), (sV9 (a1 : Int)), (sV9 (s4.2.2.1 : (List Int))), (sV9 (s4.2.2.2 : Int)), (sV9 (x15.1 : Int)), (sR9 (.ref p16)), sA9, sA9, sA9, sA9], [(p0, (cL9 [(sO9 (cL9 ((s19.1 : List Int).map sV9))), (sV9 (a0_1 : Int)), (sV9 (s19.2.1 : Int))])), (p16, (cL9 ((s19.2.2 : List Int).map sV9)))]⟩ : J.Stt)) (Sb := fun (q20 : Unit) (s19 : ((List Int) × (Int × (List Int)))) (x21 : Int) => (⟨[(sR9 (.ref p0)), (sV9 (a1 : Int)), (sV9 (s4.2.2.1 : (List Int))), (sV9 (s4.2.2.2 : Int)), (sV9 (x15.1 : Int)), (sR9 (.ref p16)), (sV9 (x21 : Int)), sA9, sA9, sA9], [(p0, (cL9 [(sO9 (cL9 ((s19.1 : List Int).map sV9))), (sV9 (a0_1 : Int)), (sV9 (s19.2.1 : Int))])), (p16, (cL9 ((s19.2.2 : List Int).map sV9)))]⟩ : J.Stt)) hs37 (J.ji_rngG W.l_range (J.je_call (f := F_law_draw W) (ok_law_draw W) hr (by decide) W.g__law_draw W.F__law_draw.kp W.b__law_draw (J.ja_cons (J.je_var 0 rfl) (J.ja_cons (J.je_add (J.je_var 1 rfl) J.je_int) J.ja_nil)) (g := (⟨p0, (a1 + 1), x15.2.1, a0_1, x15.2.2, x17⟩ : G_law_draw)) hx17 rfl (.cons 0 rfl (by nofun) .nil) (.cons 0 rfl .nil) (hG := fun G e => trivial)) hx18) (fun _ _ _ _ g => ⟨(), J.le_fgt (sl := [(sR9 (.ref p0)), (sV9 (a1 : Int)), (sV9 (s4.2.2.1 : (List Int))), (sV9 (s4.2.2.2 : Int)), (sV9 (x15.1 : Int)), (sR9 (.ref p16)), sA9, sA9, sA9, sA9]) (cs := [(p0, (cL9 [(sO9 (cL9 (((x17.2.1, (x17.2.2, ([] : List Int))).1 : List Int).map sV9))), (sV9 (a0_1 : Int)), (sV9 ((x17.2.1, (x17.2.2, ([] : List Int))).2.1 : Int))])), (p16, (cL9 (((x17.2.1, (x17.2.2, ([] : List Int))).2.2 : List Int).map sV9)))]) 2 (.keep (.keep (.keep (.keep (.keep (.keep (.drop (.drop (.drop (.drop .nil)))))))))) rfl _ _ _ _ g⟩) (fun _ _ => trivial) (fun q20 s19 x21 => (J.jg_name 6 (hN := hN))) (fun q20 s19 x21 sY _ h => ?_) (fun q20 => ?_)
  · unfold m_law_line_b1 at h
    change J.JS _ _ (⟨[(sR9 (.ref p0)), (sV9 (a1 : Int)), (sV9 (s4.2.2.1 : (List Int))), (sV9 (s4.2.2.2 : Int)), (sV9 (x15.1 : Int)), (sR9 (.ref p16)), (sV9 (x21 : Int)), sA9, sA9, sA9], [(p0, (cL9 [(sO9 (cL9 ((s19.1 : List Int).map sV9))), (sV9 (a0_1 : Int)), (sV9 (s19.2.1 : Int))])), (p16, (cL9 ((s19.2.2 : List Int).map sV9)))]⟩ : J.Stt) _ _
    obtain ⟨x26, hx26, h⟩ := J.bndE h
    obtain ⟨x27, hx27, h⟩ := J.bndE h
    obtain ⟨x28, hx28, h⟩ := J.bndE h
    obtain ⟨x29, hx29, h⟩ := J.bndE h
    obtain ⟨x30, hx30, h⟩ := J.bndE h
    refine J.js_set (hN := hN) 9 (J.je_ixv (xs := ([x26.1, x27.1, x28, x29] : List Int)) (J.je_lstv (xs := ([x26.1, x27.1, x28, x29] : List Int)) (J.ja_cons (J.je_call (f := F_law_draw W) (ok_law_draw W) hr (by decide) W.g__law_draw W.F__law_draw.kp W.b__law_draw (J.ja_cons (J.je_var 0 rfl) (J.ja_cons (J.je_var 3 rfl) J.ja_nil)) (g := (⟨p0, s4.2.2.2, s19.1, a0_1, s19.2.1, x26⟩ : G_law_draw)) hx26 rfl (.cons 0 rfl (by nofun) .nil) (.cons 0 rfl .nil) (hG := fun G e => trivial)) (J.ja_cons (J.je_call (f := F_law_draw W) (ok_law_draw W) hr (by decide) W.g__law_draw W.F__law_draw.kp W.b__law_draw (J.ja_cons (J.je_var 0 rfl) (J.ja_cons (J.je_var 3 rfl) J.ja_nil)) (g := (⟨p0, s4.2.2.2, x26.2.1, a0_1, x26.2.2, x27⟩ : G_law_draw)) hx27 rfl (.cons 0 rfl (by nofun) .nil) (.cons 0 rfl .nil) (hG := fun G e => trivial)) (J.ja_cons (J.je_modG (J.je_var 6 rfl) (J.je_var 3 rfl) hx28) (J.ja_cons (J.je_modG (J.je_div (J.je_var 6 rfl) J.je_int (by decide)) (J.je_var 3 rfl) hx29) J.ja_nil))))) (J.je_var 4 rfl) J.lv_own' hx30) ?_
    change J.JS _ _ (⟨[(sR9 (.ref p0)), (sV9 (a1 : Int)), (sV9 (s4.2.2.1 : (List Int))), (sV9 (s4.2.2.2 : Int)), (sV9 (x15.1 : Int)), (sR9 (.ref p16)), (sV9 (x21 : Int)), sA9, sA9, (sV9 (x30 : Int))], [(p0, (cL9 [(sO9 (cL9 ((x27.2.1 : List Int).map sV9))), (sV9 (a0_1 : Int)), (sV9 (x27.2.2 : Int))])), (p16, (cL9 ((s19.2.2 : List Int).map sV9)))]⟩ : J.Stt) _ _
    obtain ⟨x31, hx31, h⟩ := J.bndE h
    obtain ⟨s32, hs32, h⟩ := J.bndE h
    refine J.js_ifE (π := Unit) (Sq := fun (q33 : Unit) => (⟨[(sR9 (.ref p0)), (sV9 (a1 : Int)), (sV9 (s4.2.2.1 : (List Int))), (sV9 (s4.2.2.2 : Int)), (sV9 (x15.1 : Int)), (sR9 (.ref p16)), (sV9 (x21 : Int)), sA9, sA9, (sV9 (s32.2.2 : Int))], [(p0, (cL9 [(sO9 (cL9 ((s32.1 : List Int).map sV9))), (sV9 (a0_1 : Int)), (sV9 (s32.2.1 : Int))])), (p16, (cL9 ((s19.2.2 : List Int).map sV9)))]⟩ : J.Stt)) (J.jt_eq' (t := (x31.1 : Int)) (r := (0 : Int)) hr (J.je_call (f := F_law_draw W) (ok_law_draw W) hr (by decide) W.g__law_draw W.F__law_draw.kp W.b__law_draw (J.ja_cons (J.je_var 0 rfl) (J.ja_cons J.je_int J.ja_nil)) (g := (⟨p0, 8, x27.2.1, a0_1, x27.2.2, x31⟩ : G_law_draw)) hx31 rfl (.cons 0 rfl (by nofun) .nil) (.cons 0 rfl .nil) (hG := fun G e => trivial)) J.je_int J.dv_val J.dv_val) (fun hp => ?_) (fun hp => ?_) (fun q33 => ?_)
    · have h := J.ifT hp hs32
      change J.JS _ _ (⟨[(sR9 (.ref p0)), (sV9 (a1 : Int)), (sV9 (s4.2.2.1 : (List Int))), (sV9 (s4.2.2.2 : Int)), (sV9 (x15.1 : Int)), (sR9 (.ref p16)), (sV9 (x21 : Int)), sA9, sA9, (sV9 (x30 : Int))], [(p0, (cL9 [(sO9 (cL9 ((x31.2.1 : List Int).map sV9))), (sV9 (a0_1 : Int)), (sV9 (x31.2.2 : Int))])), (p16, (cL9 ((s19.2.2 : List Int).map sV9)))]⟩ : J.Stt) _ _
      obtain ⟨x34, hx34, h⟩ := J.bndE h
      refine J.js_set (hN := hN) 9 (J.je_call (f := F_law_draw W) (ok_law_draw W) hr (by decide) W.g__law_draw W.F__law_draw.kp W.b__law_draw (J.ja_cons (J.je_var 0 rfl) (J.ja_cons (J.je_len (n := "len") (xs := s4.2.2.1) W.l_len (J.je_var 2 rfl) J.lv_val) J.ja_nil)) (g := (⟨p0, ((s4.2.2.1).length : Int), x31.2.1, a0_1, x31.2.2, x34⟩ : G_law_draw)) hx34 rfl (.cons 0 rfl (by nofun) .nil) (.cons 0 rfl .nil) (hG := fun G e => trivial)) ?_
      change J.JS _ _ (⟨[(sR9 (.ref p0)), (sV9 (a1 : Int)), (sV9 (s4.2.2.1 : (List Int))), (sV9 (s4.2.2.2 : Int)), (sV9 (x15.1 : Int)), (sR9 (.ref p16)), (sV9 (x21 : Int)), sA9, sA9, (sV9 (x34.1 : Int))], [(p0, (cL9 [(sO9 (cL9 ((x34.2.1 : List Int).map sV9))), (sV9 (a0_1 : Int)), (sV9 (x34.2.2 : Int))])), (p16, (cL9 ((s19.2.2 : List Int).map sV9)))]⟩ : J.Stt) _ _
      have h9 := Option.some.inj h
      subst h9
      exact J.js_loopEnd (Sq := fun (q33 : Unit) (s32 : ((List Int) × (Int × Int))) => (⟨[(sR9 (.ref p0)), (sV9 (a1 : Int)), (sV9 (s4.2.2.1 : (List Int))), (sV9 (s4.2.2.2 : Int)), (sV9 (x15.1 : Int)), (sR9 (.ref p16)), (sV9 (x21 : Int)), sA9, sA9, (sV9 (s32.2.2 : Int))], [(p0, (cL9 [(sO9 (cL9 ((s32.1 : List Int).map sV9))), (sV9 (a0_1 : Int)), (sV9 (s32.2.1 : Int))])), (p16, (cL9 ((s19.2.2 : List Int).map sV9)))]⟩ : J.Stt)) (s' := (x34.2.1, (x34.2.2, x34.1))) 2 () (.keep (.keep (.keep (.keep (.keep (.keep (.keep (.drop (.drop (.keep .nil)))))))))) rfl rfl
    · have h := J.ifF hp hs32
      change J.JS _ _ (⟨[(sR9 (.ref p0)), (sV9 (a1 : Int)), (sV9 (s4.2.2.1 : (List Int))), (sV9 (s4.2.2.2 : Int)), (sV9 (x15.1 : Int)), (sR9 (.ref p16)), (sV9 (x21 : Int)), sA9, sA9, (sV9 (x30 : Int))], [(p0, (cL9 [(sO9 (cL9 ((x31.2.1 : List Int).map sV9))), (sV9 (a0_1 : Int)), (sV9 (x31.2.2 : Int))])), (p16, (cL9 ((s19.2.2 : List Int).map sV9)))]⟩ : J.Stt) _ _
      have h9 := Option.some.inj h
      subst h9
      exact J.js_loopEnd (Sq := fun (q33 : Unit) (s32 : ((List Int) × (Int × Int))) => (⟨[(sR9 (.ref p0)), (sV9 (a1 : Int)), (sV9 (s4.2.2.1 : (List Int))), (sV9 (s4.2.2.2 : Int)), (sV9 (x15.1 : Int)), (sR9 (.ref p16)), (sV9 (x21 : Int)), sA9, sA9, (sV9 (s32.2.2 : Int))], [(p0, (cL9 [(sO9 (cL9 ((s32.1 : List Int).map sV9))), (sV9 (a0_1 : Int)), (sV9 (s32.2.1 : Int))])), (p16, (cL9 ((s19.2.2 : List Int).map sV9)))]⟩ : J.Stt)) (s' := (x31.2.1, (x31.2.2, x30))) 2 () (.keep (.keep (.keep (.keep (.keep (.keep (.keep (.drop (.drop (.keep .nil)))))))))) rfl rfl
    obtain ⟨x35, hx35, h⟩ := J.bndE h
    obtain ⟨x36, hx36, h⟩ := J.bndE h
    refine J.js_expr (J.je_appG (xs := s19.2.2) (t := (x35 : Int)) 1 (J.je_var 5 rfl) rfl (J.je_ixv (xs := s4.2.2.1) (J.je_var 2 rfl) (J.je_var 9 rfl) J.lv_val hx35) rfl hx36) ?_
    have h9 := Option.some.inj h
    subst h9
    exact J.js_nil fun T tv σ H g => ⟨(), J.le_fgt (sl := [(sR9 (.ref p0)), (sV9 (a1 : Int)), (sV9 (s4.2.2.1 : (List Int))), (sV9 (s4.2.2.2 : Int)), (sV9 (x15.1 : Int)), (sR9 (.ref p16)), sA9, sA9, sA9, sA9]) (cs := [(p0, (cL9 [(sO9 (cL9 (((s32.1, (s32.2.1, x36)).1 : List Int).map sV9))), (sV9 (a0_1 : Int)), (sV9 ((s32.1, (s32.2.1, x36)).2.1 : Int))])), (p16, (cL9 (((s32.1, (s32.2.1, x36)).2.2 : List Int).map sV9)))]) 2 (.keep (.keep (.keep (.keep (.keep (.keep (.drop (.drop (.drop (.drop .nil)))))))))) rfl _ _ _ _ g⟩
  change J.JS _ _ (⟨[(sR9 (.ref p0)), (sV9 (a1 : Int)), (sV9 (s4.2.2.1 : (List Int))), (sV9 (s4.2.2.2 : Int)), (sV9 (x15.1 : Int)), (sR9 (.ref p16)), sA9, sA9, sA9, sA9], [(p0, (cL9 [(sO9 (cL9 ((s37.1 : List Int).map sV9))), (sV9 (a0_1 : Int)), (sV9 (s37.2.1 : Int))])), (p16, (cL9 ((s37.2.2 : List Int).map sV9)))]⟩ : J.Stt) _ _
  have h9 := Option.some.inj h
  subst h9
  exact J.js_ret (J.je_own 1 (J.je_var 5 rfl) rfl) fun v H o => J.Out.take 1 o
structure G_law_lot where
  p0 : PySem.Addr
  a0_0 : (List Int)
  a0_1 : Int
  a0_2 : Int
  out : ((List ((List Int) × Int)) × ((List Int) × Int))
abbrev R_law_lot {K : PySem.W.Frag} {mg : Str → Option Value} (W : Wd K mg) (r : ((List ((List Int) × Int)) × ((List Int) × Int))) : J.Slot := (sO9 (cL9 ((r.1 : List ((List Int) × Int)).map sV9)))
abbrev C_law_lot {K : PySem.W.Frag} {mg : Str → Option Value} (W : Wd K mg) (p0 : PySem.Addr) (a0_0 : (List Int)) (a0_1 : Int) (a0_2 : Int) (r : ((List ((List Int) × Int)) × ((List Int) × Int))) : List (PySem.Addr × J.Cel) := [(p0, (cL9 [(sO9 (cL9 ((r.2.1 : List Int).map sV9))), (sV9 (a0_1 : Int)), (sV9 (r.2.2 : Int))]))]
abbrev A_law_lot {K : PySem.W.Frag} {mg : Str → Option Value} (W : Wd K mg) (p0 : PySem.Addr) (a0_0 : (List Int)) (a0_1 : Int) (a0_2 : Int) : List J.Slot := [(sR9 (.ref p0))]
abbrev D_law_lot {K : PySem.W.Frag} {mg : Str → Option Value} (W : Wd K mg) (p0 : PySem.Addr) (a0_0 : (List Int)) (a0_1 : Int) (a0_2 : Int) : List (PySem.Addr × J.Cel) := [(p0, (cL9 [(sO9 (cL9 ((a0_0 : List Int).map sV9))), (sV9 (a0_1 : Int)), (sV9 (a0_2 : Int))]))]
def F_law_lot {K : PySem.W.Frag} {mg : Str → Option Value} (W : Wd K mg)  : J.FS G_law_lot where
  pre := fun g => m_law_lot g.a0_0 g.a0_1 g.a0_2 = some g.out
  preG := fun _ _ => True
  args := fun g => A_law_lot W g.p0 g.a0_0 g.a0_1 g.a0_2
  cells := fun g => D_law_lot W g.p0 g.a0_0 g.a0_1 g.a0_2
  res := fun g => R_law_lot W g.out
  cells' := fun g => C_law_lot W g.p0 g.a0_0 g.a0_1 g.a0_2 g.out
theorem ok_law_lot (W : Wd K mg) : FnOk P w K mg base CX0 4 W.a__law_lot W.d__law_lot ["bag"] (F_law_lot (W)).sp := by
  refine J.fn_okD (F_law_lot (W)) W.F__law_lot sc__law_lot (fun g => rfl) (fun g => by intro s hs; simp only [F_law_lot, List.mem_cons, List.not_mem_nil, or_false] at hs; rcases hs with rfl <;> first | rfl | exact J.xsl_plain) (fun cdv A outer s H E hr B g h hG => ?_)
  have hN := (sc__law_lot).nd
  obtain ⟨p0, a0_0, a0_1, a0_2, r0⟩ := g
  change m_law_lot a0_0 a0_1 a0_2 = some r0 at h
  unfold m_law_lot at h
  change J.JS _ B (⟨[(sR9 (.ref p0)), sA9, sA9, sA9, sA9, sA9], [(p0, (cL9 [(sO9 (cL9 ((a0_0 : List Int).map sV9))), (sV9 (a0_1 : Int)), (sV9 (a0_2 : Int))]))]⟩ : J.Stt) _ (J.fend B (F_law_lot (W)) ⟨p0, a0_0, a0_1, a0_2, r0⟩)
  refine J.js_new (hN := hN) 1 (J.je_lstv (xs := ([] : List ((List Int) × Int))) J.ja_nil) fun p1 => ?_
  obtain ⟨x2, hx2, h⟩ := J.bndE h
  obtain ⟨x3, hx3, h⟩ := J.bndE h
  obtain ⟨x4, hx4, h⟩ := J.bndE h
  refine J.js_set (hN := hN) 2 (J.je_ixv (xs := ([0, 2, (3 + x2.1)] : List Int)) (J.je_lstv (xs := ([0, 2, (3 + x2.1)] : List Int)) (J.ja_cons J.je_int (J.ja_cons J.je_int (J.ja_cons (J.je_add J.je_int (J.je_call (f := F_law_draw W) (ok_law_draw W) hr (by decide) W.g__law_draw W.F__law_draw.kp W.b__law_draw (J.ja_cons (J.je_var 0 rfl) (J.ja_cons J.je_int J.ja_nil)) (g := (⟨p0, 10, a0_0, a0_1, a0_2, x2⟩ : G_law_draw)) hx2 rfl (.cons 0 rfl (by nofun) .nil) (.cons 0 rfl .nil) (hG := fun G e => trivial))) J.ja_nil)))) (J.je_call (f := F_law_draw W) (ok_law_draw W) hr (by decide) W.g__law_draw W.F__law_draw.kp W.b__law_draw (J.ja_cons (J.je_var 0 rfl) (J.ja_cons J.je_int J.ja_nil)) (g := (⟨p0, 3, x2.2.1, a0_1, x2.2.2, x3⟩ : G_law_draw)) hx3 rfl (.cons 0 rfl (by nofun) .nil) (.cons 0 rfl .nil) (hG := fun G e => trivial)) J.lv_own' hx4) ?_
  change J.JS _ _ (⟨[(sR9 (.ref p0)), (sR9 (.ref p1)), (sV9 (x4 : Int)), sA9, sA9, sA9], [(p0, (cL9 [(sO9 (cL9 ((x3.2.1 : List Int).map sV9))), (sV9 (a0_1 : Int)), (sV9 (x3.2.2 : Int))])), (p1, (cL9 ((([] : List ((List Int) × Int)) : List ((List Int) × Int)).map sV9)))]⟩ : J.Stt) _ _
  obtain ⟨x5, hx5, h⟩ := J.bndE h
  obtain ⟨x6, hx6, h⟩ := J.bndE h
  obtain ⟨x7, hx7, h⟩ := J.bndE h
  obtain ⟨x8, hx8, h⟩ := J.bndE h
  obtain ⟨x9, hx9, h⟩ := J.bndE h
  obtain ⟨s27, hs27, h⟩ := J.bndE h
  refine J.js_forE (π := Unit) (f := m_law_lot_b0 a0_1 x4) (Sf := fun (q11 : Unit) (s10 : ((List Int) × (Int × (List ((List Int) × Int))))) => (⟨[(sR9 (.ref p0)), (sR9 (.ref p1)), (sV9 (x4 : Int)), sA9, sA9, sA9], [(p0, (cL9 [(sO9 (cL9 ((s10.1 : List Int).map sV9))), (sV9 (a0_1 : Int)), (sV9 (s10.2.1 : Int))])), (p1, (cL9 ((s10.2.2 : List ((List Int) × Int)).map sV9)))]⟩ : J.Stt)) (Sb := fun (q11 : Unit) (s10 : ((List Int) × (Int × (List ((List Int) × Int))))) (x12 : Int) => (⟨[(sR9 (.ref p0)), (sR9 (.ref p1)), (sV9 (x4 : Int)), (sV9 (x12 : Int)), sA9, sA9], [(p0, (cL9 [(sO9 (cL9 ((s10.1 : List Int).map sV9))), (sV9 (a0_1 : Int)), (sV9 (s10.2.1 : Int))])), (p1, (cL9 ((s10.2.2 : List ((List Int) × Int)).map sV9)))]⟩ : J.Stt)) hs27 (J.ji_rngG W.l_range (J.je_ixv (xs := ([x5.1, (2 + x6.1)] : List Int)) (J.je_lstv (xs := ([x5.1, (2 + x6.1)] : List Int)) (J.ja_cons (J.je_call (f := F_law_draw W) (ok_law_draw W) hr (by decide) W.g__law_draw W.F__law_draw.kp W.b__law_draw (J.ja_cons (J.je_var 0 rfl) (J.ja_cons J.je_int J.ja_nil)) (g := (⟨p0, 7, x3.2.1, a0_1, x3.2.2, x5⟩ : G_law_draw)) hx5 rfl (.cons 0 rfl (by nofun) .nil) (.cons 0 rfl .nil) (hG := fun G e => trivial)) (J.ja_cons (J.je_add J.je_int (J.je_call (f := F_law_draw W) (ok_law_draw W) hr (by decide) W.g__law_draw W.F__law_draw.kp W.b__law_draw (J.ja_cons (J.je_var 0 rfl) (J.ja_cons J.je_int J.ja_nil)) (g := (⟨p0, 5, x5.2.1, a0_1, x5.2.2, x6⟩ : G_law_draw)) hx6 rfl (.cons 0 rfl (by nofun) .nil) (.cons 0 rfl .nil) (hG := fun G e => trivial))) J.ja_nil))) (J.je_call (f := F_law_draw W) (ok_law_draw W) hr (by decide) W.g__law_draw W.F__law_draw.kp W.b__law_draw (J.ja_cons (J.je_var 0 rfl) (J.ja_cons J.je_int J.ja_nil)) (g := (⟨p0, 2, x6.2.1, a0_1, x6.2.2, x7⟩ : G_law_draw)) hx7 rfl (.cons 0 rfl (by nofun) .nil) (.cons 0 rfl .nil) (hG := fun G e => trivial)) J.lv_own' hx8) hx9) (fun _ _ _ _ g => ⟨(), J.le_fgt (sl := [(sR9 (.ref p0)), (sR9 (.ref p1)), (sV9 (x4 : Int)), sA9, sA9, sA9]) (cs := [(p0, (cL9 [(sO9 (cL9 (((x7.2.1, (x7.2.2, ([] : List ((List Int) × Int)))).1 : List Int).map sV9))), (sV9 (a0_1 : Int)), (sV9 ((x7.2.1, (x7.2.2, ([] : List ((List Int) × Int)))).2.1 : Int))])), (p1, (cL9 (((x7.2.1, (x7.2.2, ([] : List ((List Int) × Int)))).2.2 : List ((List Int) × Int)).map sV9)))]) 2 (.keep (.keep (.keep (.drop (.drop (.drop .nil)))))) rfl _ _ _ _ g⟩) (fun _ _ => trivial) (fun q11 s10 x12 => (J.jg_name 3 (hN := hN))) (fun q11 s10 x12 sY _ h => ?_) (fun q11 => ?_)
  · unfold m_law_lot_b0 at h
    change J.JS _ _ (⟨[(sR9 (.ref p0)), (sR9 (.ref p1)), (sV9 (x4 : Int)), (sV9 (x12 : Int)), sA9, sA9], [(p0, (cL9 [(sO9 (cL9 ((s10.1 : List Int).map sV9))), (sV9 (a0_1 : Int)), (sV9 (s10.2.1 : Int))])), (p1, (cL9 ((s10.2.2 : List ((List Int) × Int)).map sV9)))]⟩ : J.Stt) _ _
    obtain ⟨x17, hx17, h⟩ := J.bndE h
    obtain ⟨x18, hx18, h⟩ := J.bndE h
    obtain ⟨x19, hx19, h⟩ := J.bndE h
    refine J.js_set (hN := hN) 4 (J.je_frL (J.je_call (f := F_law_line W) (ok_law_line W) hr (by decide) W.g__law_line W.F__law_line.kp W.b__law_line (J.ja_cons (J.je_var 0 rfl) (J.ja_cons (J.je_ixv (xs := ([5, 9, 14, 14, 30, 30, 60, 200] : List Int)) (J.je_lstv (xs := ([5, 9, 14, 14, 30, 30, 60, 200] : List Int)) (J.ja_cons J.je_int (J.ja_cons J.je_int (J.ja_cons J.je_int (J.ja_cons J.je_int (J.ja_cons J.je_int (J.ja_cons J.je_int (J.ja_cons J.je_int (J.ja_cons J.je_int J.ja_nil))))))))) (J.je_call (f := F_law_draw W) (ok_law_draw W) hr (by decide) W.g__law_draw W.F__law_draw.kp W.b__law_draw (J.ja_cons (J.je_var 0 rfl) (J.ja_cons J.je_int J.ja_nil)) (g := (⟨p0, 8, s10.1, a0_1, s10.2.1, x17⟩ : G_law_draw)) hx17 rfl (.cons 0 rfl (by nofun) .nil) (.cons 0 rfl .nil) (hG := fun G e => trivial)) J.lv_own' hx18) J.ja_nil)) (g := (⟨p0, x18, x17.2.1, a0_1, x17.2.2, x19⟩ : G_law_line)) hx19 rfl (.cons 0 rfl (by nofun) .nil) (.cons 0 rfl .nil) (hG := fun G e => trivial))) ?_
    change J.JS _ _ (⟨[(sR9 (.ref p0)), (sR9 (.ref p1)), (sV9 (x4 : Int)), (sV9 (x12 : Int)), (sV9 (x19.1 : (List Int))), sA9], [(p0, (cL9 [(sO9 (cL9 ((x19.2.1 : List Int).map sV9))), (sV9 (a0_1 : Int)), (sV9 (x19.2.2 : Int))])), (p1, (cL9 ((s10.2.2 : List ((List Int) × Int)).map sV9)))]⟩ : J.Stt) _ _
    obtain ⟨x20, hx20, h⟩ := J.bndE h
    obtain ⟨x21, hx21, h⟩ := J.bndE h
    obtain ⟨x22, hx22, h⟩ := J.bndE h
    refine J.js_set (hN := hN) 5 (J.je_add J.je_int (J.je_call (f := F_law_draw W) (ok_law_draw W) hr (by decide) W.g__law_draw W.F__law_draw.kp W.b__law_draw (J.ja_cons (J.je_var 0 rfl) (J.ja_cons (J.je_ixv (xs := ([3, 6, 12, 60] : List Int)) (J.je_lstv (xs := ([3, 6, 12, 60] : List Int)) (J.ja_cons J.je_int (J.ja_cons J.je_int (J.ja_cons J.je_int (J.ja_cons J.je_int J.ja_nil))))) (J.je_call (f := F_law_draw W) (ok_law_draw W) hr (by decide) W.g__law_draw W.F__law_draw.kp W.b__law_draw (J.ja_cons (J.je_var 0 rfl) (J.ja_cons J.je_int J.ja_nil)) (g := (⟨p0, 4, x19.2.1, a0_1, x19.2.2, x20⟩ : G_law_draw)) hx20 rfl (.cons 0 rfl (by nofun) .nil) (.cons 0 rfl .nil) (hG := fun G e => trivial)) J.lv_own' hx21) J.ja_nil)) (g := (⟨p0, x21, x20.2.1, a0_1, x20.2.2, x22⟩ : G_law_draw)) hx22 rfl (.cons 0 rfl (by nofun) .nil) (.cons 0 rfl .nil) (hG := fun G e => trivial))) ?_
    change J.JS _ _ (⟨[(sR9 (.ref p0)), (sR9 (.ref p1)), (sV9 (x4 : Int)), (sV9 (x12 : Int)), (sV9 (x19.1 : (List Int))), (sV9 ((1 + x22.1) : Int))], [(p0, (cL9 [(sO9 (cL9 ((x22.2.1 : List Int).map sV9))), (sV9 (a0_1 : Int)), (sV9 (x22.2.2 : Int))])), (p1, (cL9 ((s10.2.2 : List ((List Int) × Int)).map sV9)))]⟩ : J.Stt) _ _
    obtain ⟨s23, hs23, h⟩ := J.bndE h
    refine J.js_ifE (π := Unit) (Sq := fun (q24 : Unit) => (⟨[(sR9 (.ref p0)), (sR9 (.ref p1)), (sV9 (x4 : Int)), (sV9 (x12 : Int)), (sV9 (x19.1 : (List Int))), (sV9 (s23.2.2 : Int))], [(p0, (cL9 [(sO9 (cL9 ((s23.1 : List Int).map sV9))), (sV9 (a0_1 : Int)), (sV9 (s23.2.1 : Int))])), (p1, (cL9 ((s10.2.2 : List ((List Int) × Int)).map sV9)))]⟩ : J.Stt)) (J.jt_gt (J.je_var 2 rfl) J.je_int) (fun hp => ?_) (fun hp => ?_) (fun q24 => ?_)
    · have h := J.ifT hp hs23
      obtain ⟨x25, hx25, h⟩ := J.bndE h
      refine J.js_set (hN := hN) 5 (J.je_add (J.je_var 2 rfl) (J.je_call (f := F_law_draw W) (ok_law_draw W) hr (by decide) W.g__law_draw W.F__law_draw.kp W.b__law_draw (J.ja_cons (J.je_var 0 rfl) (J.ja_cons J.je_int J.ja_nil)) (g := (⟨p0, 2, x22.2.1, a0_1, x22.2.2, x25⟩ : G_law_draw)) hx25 rfl (.cons 0 rfl (by nofun) .nil) (.cons 0 rfl .nil) (hG := fun G e => trivial))) ?_
      change J.JS _ _ (⟨[(sR9 (.ref p0)), (sR9 (.ref p1)), (sV9 (x4 : Int)), (sV9 (x12 : Int)), (sV9 (x19.1 : (List Int))), (sV9 ((x4 + x25.1) : Int))], [(p0, (cL9 [(sO9 (cL9 ((x25.2.1 : List Int).map sV9))), (sV9 (a0_1 : Int)), (sV9 (x25.2.2 : Int))])), (p1, (cL9 ((s10.2.2 : List ((List Int) × Int)).map sV9)))]⟩ : J.Stt) _ _
      have h9 := Option.some.inj h
      subst h9
      exact J.js_loopEnd (Sq := fun (q24 : Unit) (s23 : ((List Int) × (Int × Int))) => (⟨[(sR9 (.ref p0)), (sR9 (.ref p1)), (sV9 (x4 : Int)), (sV9 (x12 : Int)), (sV9 (x19.1 : (List Int))), (sV9 (s23.2.2 : Int))], [(p0, (cL9 [(sO9 (cL9 ((s23.1 : List Int).map sV9))), (sV9 (a0_1 : Int)), (sV9 (s23.2.1 : Int))])), (p1, (cL9 ((s10.2.2 : List ((List Int) × Int)).map sV9)))]⟩ : J.Stt)) (s' := (x25.2.1, (x25.2.2, (x4 + x25.1)))) 2 () (.keep (.keep (.keep (.keep (.keep (.keep .nil)))))) rfl rfl
    · have h := J.ifF hp hs23
      have h9 := Option.some.inj h
      subst h9
      exact J.js_loopEnd (Sq := fun (q24 : Unit) (s23 : ((List Int) × (Int × Int))) => (⟨[(sR9 (.ref p0)), (sR9 (.ref p1)), (sV9 (x4 : Int)), (sV9 (x12 : Int)), (sV9 (x19.1 : (List Int))), (sV9 (s23.2.2 : Int))], [(p0, (cL9 [(sO9 (cL9 ((s23.1 : List Int).map sV9))), (sV9 (a0_1 : Int)), (sV9 (s23.2.1 : Int))])), (p1, (cL9 ((s10.2.2 : List ((List Int) × Int)).map sV9)))]⟩ : J.Stt)) (s' := (x22.2.1, (x22.2.2, (1 + x22.1)))) 2 () (.keep (.keep (.keep (.keep (.keep (.keep .nil)))))) rfl rfl
    obtain ⟨x26, hx26, h⟩ := J.bndE h
    refine J.js_expr (J.je_appG (xs := s10.2.2) (t := ((x19.1, s23.2.2) : ((List Int) × Int))) 1 (J.je_var 1 rfl) rfl (J.je_tup (t := ((x19.1, s23.2.2) : ((List Int) × Int))) (J.ja_cons (J.je_var 4 rfl) (J.ja_cons (J.je_var 5 rfl) J.ja_nil)) (J.SlDs.cons J.sld_val (J.SlDs.cons J.sld_val J.SlDs.nil)) rfl (Nat.le_of_ble_eq_true rfl)) rfl hx26) ?_
    have h9 := Option.some.inj h
    subst h9
    exact J.js_nil fun T tv σ H g => ⟨(), J.le_fgt (sl := [(sR9 (.ref p0)), (sR9 (.ref p1)), (sV9 (x4 : Int)), sA9, sA9, sA9]) (cs := [(p0, (cL9 [(sO9 (cL9 (((s23.1, (s23.2.1, x26)).1 : List Int).map sV9))), (sV9 (a0_1 : Int)), (sV9 ((s23.1, (s23.2.1, x26)).2.1 : Int))])), (p1, (cL9 (((s23.1, (s23.2.1, x26)).2.2 : List ((List Int) × Int)).map sV9)))]) 2 (.keep (.keep (.keep (.drop (.drop (.drop .nil)))))) rfl _ _ _ _ g⟩
  change J.JS _ _ (⟨[(sR9 (.ref p0)), (sR9 (.ref p1)), (sV9 (x4 : Int)), sA9, sA9, sA9], [(p0, (cL9 [(sO9 (cL9 ((s27.1 : List Int).map sV9))), (sV9 (a0_1 : Int)), (sV9 (s27.2.1 : Int))])), (p1, (cL9 ((s27.2.2 : List ((List Int) × Int)).map sV9)))]⟩ : J.Stt) _ _
  have h9 := Option.some.inj h
  subst h9
  exact J.js_ret (J.je_own 1 (J.je_var 1 rfl) rfl) fun v H o => J.Out.take 1 o
structure G_law_many where
  p0 : PySem.Addr
  a1 : (List ((List Int) × Int))
  a0_0 : (List Int)
  a0_1 : Int
  a0_2 : Int
  out : (Int × ((List Int) × Int))
abbrev R_law_many {K : PySem.W.Frag} {mg : Str → Option Value} (W : Wd K mg) (r : (Int × ((List Int) × Int))) : J.Slot := (sV9 (r.1 : Int))
abbrev C_law_many {K : PySem.W.Frag} {mg : Str → Option Value} (W : Wd K mg) (p0 : PySem.Addr) (a1 : (List ((List Int) × Int))) (a0_0 : (List Int)) (a0_1 : Int) (a0_2 : Int) (r : (Int × ((List Int) × Int))) : List (PySem.Addr × J.Cel) := [(p0, (cL9 [(sO9 (cL9 ((r.2.1 : List Int).map sV9))), (sV9 (a0_1 : Int)), (sV9 (r.2.2 : Int))]))]
abbrev A_law_many {K : PySem.W.Frag} {mg : Str → Option Value} (W : Wd K mg) (p0 : PySem.Addr) (a1 : (List ((List Int) × Int))) (a0_0 : (List Int)) (a0_1 : Int) (a0_2 : Int) : List J.Slot := [(sR9 (.ref p0)), (sV9 (a1 : (List ((List Int) × Int))))]
abbrev D_law_many {K : PySem.W.Frag} {mg : Str → Option Value} (W : Wd K mg) (p0 : PySem.Addr) (a1 : (List ((List Int) × Int))) (a0_0 : (List Int)) (a0_1 : Int) (a0_2 : Int) : List (PySem.Addr × J.Cel) := [(p0, (cL9 [(sO9 (cL9 ((a0_0 : List Int).map sV9))), (sV9 (a0_1 : Int)), (sV9 (a0_2 : Int))]))]
def F_law_many {K : PySem.W.Frag} {mg : Str → Option Value} (W : Wd K mg)  : J.FS G_law_many where
  pre := fun g => m_law_many g.a1 g.a0_0 g.a0_1 g.a0_2 = some g.out
  preG := fun _ _ => True
  args := fun g => A_law_many W g.p0 g.a1 g.a0_0 g.a0_1 g.a0_2
  cells := fun g => D_law_many W g.p0 g.a1 g.a0_0 g.a0_1 g.a0_2
  res := fun g => R_law_many W g.out
  cells' := fun g => C_law_many W g.p0 g.a1 g.a0_0 g.a0_1 g.a0_2 g.out
theorem ok_law_many (W : Wd K mg) : FnOk P w K mg base CX0 2 W.a__law_many W.d__law_many ["bag", "lot"] (F_law_many (W)).sp := by
  refine J.fn_okD (F_law_many (W)) W.F__law_many sc__law_many (fun g => rfl) (fun g => by intro s hs; simp only [F_law_many, List.mem_cons, List.not_mem_nil, or_false] at hs; rcases hs with rfl | rfl <;> first | rfl | exact J.xsl_plain) (fun cdv A outer s H E hr B g h hG => ?_)
  have hN := (sc__law_many).nd
  obtain ⟨p0, a1, a0_0, a0_1, a0_2, r0⟩ := g
  change m_law_many a1 a0_0 a0_1 a0_2 = some r0 at h
  unfold m_law_many at h
  change J.JS _ B (⟨[(sR9 (.ref p0)), (sV9 (a1 : (List ((List Int) × Int)))), sA9, sA9], [(p0, (cL9 [(sO9 (cL9 ((a0_0 : List Int).map sV9))), (sV9 (a0_1 : Int)), (sV9 (a0_2 : Int))]))]⟩ : J.Stt) _ (J.fend B (F_law_many (W)) ⟨p0, a1, a0_0, a0_1, a0_2, r0⟩)
  obtain ⟨x4, hx4, h⟩ := J.bndE h
  refine J.js_set (hN := hN) 2 (J.je_maxD (ns := x4.1) hr W.l_max (J.je_lc (f := m_law_many_c0) (el := sV9) (Sf := fun (s1 : Unit) => (⟨[(sR9 (.ref p0)), (sV9 (a1 : (List ((List Int) × Int)))), sA9, sA9], [(p0, (cL9 [(sO9 (cL9 ((a0_0 : List Int).map sV9))), (sV9 (a0_1 : Int)), (sV9 (a0_2 : Int))]))]⟩ : J.Stt)) (Sb := fun (s1 : Unit) (x3 : ((List Int) × Int)) => (⟨[(sR9 (.ref p0)), (sV9 (a1 : (List ((List Int) × Int)))), sA9, (sV9 (x3 : ((List Int) × Int)))], [(p0, (cL9 [(sO9 (cL9 ((a0_0 : List Int).map sV9))), (sV9 (a0_1 : Int)), (sV9 (a0_2 : Int))]))]⟩ : J.Stt)) (s0 := ()) (own := [(("one" : St9), 3)]) (ws := [3]) (J.lcM_of hx4).2 (J.lcM_of hx4).1 hN (L2.blkOk_by (N := ["bag", "lot", "least", "one"]) (sc := defScope s__law_many) (by decide +kernel)) (J.ji_val (xs := a1) (J.je_var 1 rfl)) (J.le_fgt 1 (.keep (.keep (.drop (.drop .nil)))) rfl) (fun _ => trivial) (fun _ => J.any_at rfl) (by decide) (fun s1 x3 => fun s91 H91 C91 cl91 fp91 =>  J.inJG hN fun hN => (J.jg_name 3 (hN := hN))) (fun s1 x3 o sZ _ h => by
      unfold m_law_many_c0 at h
      obtain ⟨h8, h9⟩ := Prod.mk.inj (Option.some.inj h)
      subst h8
      subst h9
      exact ⟨true, _, (fun s91 H91 C91 cl91 fp91 =>  J.jts_nil), fun _ => ⟨_, _, rfl, (fun s91 H91 C91 cl91 fp91 =>  J.inJE hr hN fun hr hN => (J.je_tpix (t := (x3 : ((List Int) × Int))) (r := (x3.2 : Int)) (J.je_var 3 rfl) J.je_int rfl rfl)), (J.le_fgt 1 (.keep (.keep (.drop (.drop .nil)))) rfl)⟩, nofun⟩)) J.je_int J.lv_own') ?_
  obtain ⟨x5, hx5, h⟩ := J.bndE h
  obtain ⟨x6, hx6, h⟩ := J.bndE h
  obtain ⟨x7, hx7, h⟩ := J.bndE h
  obtain ⟨x8, hx8, h⟩ := J.bndE h
  have h9 := Option.some.inj h
  subst h9
  exact J.js_ret (J.je_min2 W.l_min J.je_int (J.je_add (J.je_var 2 rfl) (J.je_ixv (xs := ([0, 0, 0, 1, x5.1, x6.1] : List Int)) (J.je_lstv (xs := ([0, 0, 0, 1, x5.1, x6.1] : List Int)) (J.ja_cons J.je_int (J.ja_cons J.je_int (J.ja_cons J.je_int (J.ja_cons J.je_int (J.ja_cons (J.je_call (f := F_law_draw W) (ok_law_draw W) hr (by decide) W.g__law_draw W.F__law_draw.kp W.b__law_draw (J.ja_cons (J.je_var 0 rfl) (J.ja_cons J.je_int J.ja_nil)) (g := (⟨p0, 4, a0_0, a0_1, a0_2, x5⟩ : G_law_draw)) hx5 rfl (.cons 0 rfl (by nofun) .nil) (.cons 0 rfl .nil) (hG := fun G e => trivial)) (J.ja_cons (J.je_call (f := F_law_draw W) (ok_law_draw W) hr (by decide) W.g__law_draw W.F__law_draw.kp W.b__law_draw (J.ja_cons (J.je_var 0 rfl) (J.ja_cons J.je_int J.ja_nil)) (g := (⟨p0, 64, x5.2.1, a0_1, x5.2.2, x6⟩ : G_law_draw)) hx6 rfl (.cons 0 rfl (by nofun) .nil) (.cons 0 rfl .nil) (hG := fun G e => trivial)) J.ja_nil))))))) (J.je_call (f := F_law_draw W) (ok_law_draw W) hr (by decide) W.g__law_draw W.F__law_draw.kp W.b__law_draw (J.ja_cons (J.je_var 0 rfl) (J.ja_cons J.je_int J.ja_nil)) (g := (⟨p0, 6, x6.2.1, a0_1, x6.2.2, x7⟩ : G_law_draw)) hx7 rfl (.cons 0 rfl (by nofun) .nil) (.cons 0 rfl .nil) (hG := fun G e => trivial)) J.lv_own' hx8))) fun v H o => J.Out.take 1 o
structure G_law_size where
  p0 : PySem.Addr
  a0_0 : (List Int)
  a0_1 : Int
  a0_2 : Int
  out : (Int × ((List Int) × Int))
abbrev R_law_size {K : PySem.W.Frag} {mg : Str → Option Value} (W : Wd K mg) (r : (Int × ((List Int) × Int))) : J.Slot := (sV9 (r.1 : Int))
abbrev C_law_size {K : PySem.W.Frag} {mg : Str → Option Value} (W : Wd K mg) (p0 : PySem.Addr) (a0_0 : (List Int)) (a0_1 : Int) (a0_2 : Int) (r : (Int × ((List Int) × Int))) : List (PySem.Addr × J.Cel) := [(p0, (cL9 [(sO9 (cL9 ((r.2.1 : List Int).map sV9))), (sV9 (a0_1 : Int)), (sV9 (r.2.2 : Int))]))]
abbrev A_law_size {K : PySem.W.Frag} {mg : Str → Option Value} (W : Wd K mg) (p0 : PySem.Addr) (a0_0 : (List Int)) (a0_1 : Int) (a0_2 : Int) : List J.Slot := [(sR9 (.ref p0))]
abbrev D_law_size {K : PySem.W.Frag} {mg : Str → Option Value} (W : Wd K mg) (p0 : PySem.Addr) (a0_0 : (List Int)) (a0_1 : Int) (a0_2 : Int) : List (PySem.Addr × J.Cel) := [(p0, (cL9 [(sO9 (cL9 ((a0_0 : List Int).map sV9))), (sV9 (a0_1 : Int)), (sV9 (a0_2 : Int))]))]
def F_law_size {K : PySem.W.Frag} {mg : Str → Option Value} (W : Wd K mg)  : J.FS G_law_size where
  pre := fun g => m_law_size g.a0_0 g.a0_1 g.a0_2 = some g.out
  preG := fun _ _ => True
  args := fun g => A_law_size W g.p0 g.a0_0 g.a0_1 g.a0_2
  cells := fun g => D_law_size W g.p0 g.a0_0 g.a0_1 g.a0_2
  res := fun g => R_law_size W g.out
  cells' := fun g => C_law_size W g.p0 g.a0_0 g.a0_1 g.a0_2 g.out
theorem ok_law_size (W : Wd K mg) : FnOk P w K mg base CX0 2 W.a__law_size W.d__law_size ["bag"] (F_law_size (W)).sp := by
  refine J.fn_okD (F_law_size (W)) W.F__law_size sc__law_size (fun g => rfl) (fun g => by intro s hs; simp only [F_law_size, List.mem_cons, List.not_mem_nil, or_false] at hs; rcases hs with rfl <;> first | rfl | exact J.xsl_plain) (fun cdv A outer s H E hr B g h hG => ?_)
  have hN := (sc__law_size).nd
  obtain ⟨p0, a0_0, a0_1, a0_2, r0⟩ := g
  change m_law_size a0_0 a0_1 a0_2 = some r0 at h
  unfold m_law_size at h
  change J.JS _ B (⟨[(sR9 (.ref p0))], [(p0, (cL9 [(sO9 (cL9 ((a0_0 : List Int).map sV9))), (sV9 (a0_1 : Int)), (sV9 (a0_2 : Int))]))]⟩ : J.Stt) _ (J.fend B (F_law_size (W)) ⟨p0, a0_0, a0_1, a0_2, r0⟩)
  obtain ⟨x1, hx1, h⟩ := J.bndE h
  obtain ⟨x2, hx2, h⟩ := J.bndE h
  obtain ⟨x3, hx3, h⟩ := J.bndE h
  have h9 := Option.some.inj h
  subst h9
  exact J.js_ret (J.je_ixv (xs := ([1, 1, 2, (1 + x1.1), 300] : List Int)) (J.je_lstv (xs := ([1, 1, 2, (1 + x1.1), 300] : List Int)) (J.ja_cons J.je_int (J.ja_cons J.je_int (J.ja_cons J.je_int (J.ja_cons (J.je_add J.je_int (J.je_call (f := F_law_draw W) (ok_law_draw W) hr (by decide) W.g__law_draw W.F__law_draw.kp W.b__law_draw (J.ja_cons (J.je_var 0 rfl) (J.ja_cons J.je_int J.ja_nil)) (g := (⟨p0, 9, a0_0, a0_1, a0_2, x1⟩ : G_law_draw)) hx1 rfl (.cons 0 rfl (by nofun) .nil) (.cons 0 rfl .nil) (hG := fun G e => trivial))) (J.ja_cons J.je_int J.ja_nil)))))) (J.je_call (f := F_law_draw W) (ok_law_draw W) hr (by decide) W.g__law_draw W.F__law_draw.kp W.b__law_draw (J.ja_cons (J.je_var 0 rfl) (J.ja_cons J.je_int J.ja_nil)) (g := (⟨p0, 5, x1.2.1, a0_1, x1.2.2, x2⟩ : G_law_draw)) hx2 rfl (.cons 0 rfl (by nofun) .nil) (.cons 0 rfl .nil) (hG := fun G e => trivial)) J.lv_own' hx3) fun v H o => J.Out.take 1 o
structure G_need_window where
  a0 : Int
  a1 : Int
  out : Unit
abbrev R_need_window {K : PySem.W.Frag} {mg : Str → Option Value} (W : Wd K mg) (r : Unit) : J.Slot := (sR9 .non)
abbrev C_need_window {K : PySem.W.Frag} {mg : Str → Option Value} (W : Wd K mg) (a0 : Int) (a1 : Int) (r : Unit) : List (PySem.Addr × J.Cel) := []
abbrev A_need_window {K : PySem.W.Frag} {mg : Str → Option Value} (W : Wd K mg) (a0 : Int) (a1 : Int) : List J.Slot := [(sV9 (a0 : Int)), (sV9 (a1 : Int))]
abbrev D_need_window {K : PySem.W.Frag} {mg : Str → Option Value} (W : Wd K mg) (a0 : Int) (a1 : Int) : List (PySem.Addr × J.Cel) := []
def F_need_window {K : PySem.W.Frag} {mg : Str → Option Value} (W : Wd K mg)  : J.FS G_need_window where
  pre := fun g => m_need_window g.a0 g.a1 = some g.out
  preG := fun _ _ => True
  args := fun g => A_need_window W g.a0 g.a1
  cells := fun g => D_need_window W g.a0 g.a1
  res := fun g => R_need_window W g.out
  cells' := fun g => C_need_window W g.a0 g.a1 g.out
theorem ok_need_window (W : Wd K mg) : FnOk P w K mg base CX0 1 W.a_need_window W.d_need_window ["window", "what"] (F_need_window (W)).sp := by
  refine J.fn_okD (F_need_window (W)) W.F_need_window sc_need_window (fun g => rfl) (fun g => by intro s hs; simp only [F_need_window, List.mem_cons, List.not_mem_nil, or_false] at hs; rcases hs with rfl | rfl <;> first | rfl | exact J.xsl_plain) (fun cdv A outer s H E hr B g h hG => ?_)
  have hN := (sc_need_window).nd
  obtain ⟨a0, a1, r0⟩ := g
  change m_need_window a0 a1 = some r0 at h
  unfold m_need_window at h
  change J.JS _ B (⟨[(sV9 (a0 : Int)), (sV9 (a1 : Int))], []⟩ : J.Stt) _ (J.fend B (F_need_window (W)) ⟨a0, a1, r0⟩)
  refine J.js_if (J.jt_lt (J.je_var 0 rfl) J.je_int) (fun hp => ?_) (fun hp => ?_)
  · replace h := J.ifT hp h
    exact nomatch h
  · replace h := J.ifF hp h
    refine J.js_end ?_
    change J.JS _ _ (⟨[(sV9 (a0 : Int)), (sV9 (a1 : Int))], []⟩ : J.Stt) _ _
    have h9 := Option.some.inj h
    subst h9
    exact J.js_fin 0 rfl rfl
structure G_Job_init where
  p0 : PySem.Addr
  a1 : Int
  a2 : (List Int)
  a3 : Int
  out : (Int × ((List Int) × (Int × (Int × ((List (Int × Bool)) × ((Option Int) × (Int × Int)))))))
abbrev R_Job_init {K : PySem.W.Frag} {mg : Str → Option Value} (W : Wd K mg) (r : (Int × ((List Int) × (Int × (Int × ((List (Int × Bool)) × ((Option Int) × (Int × Int)))))))) : J.Slot := (sR9 .non)
abbrev C_Job_init {K : PySem.W.Frag} {mg : Str → Option Value} (W : Wd K mg) (p0 : PySem.Addr) (a1 : Int) (a2 : (List Int)) (a3 : Int) (r : (Int × ((List Int) × (Int × (Int × ((List (Int × Bool)) × ((Option Int) × (Int × Int)))))))) : List (PySem.Addr × J.Cel) := [(p0, (cI9 W.C_Job [(("number" : St9), (sV9 (r.1 : Int))), (("trace" : St9), (sV9 (r.2.1 : (List Int)))), (("window" : St9), (sV9 (r.2.2.1 : Int))), (("at" : St9), (sV9 (r.2.2.2.1 : Int))), (("pages_in" : St9), (sO9 (cD9 (J.dks (r.2.2.2.2.1 : List (Int × Bool))) (J.dss (r.2.2.2.2.1 : List (Int × Bool)))))), (("on_since" : St9), (sV9 (r.2.2.2.2.2.1 : (Option Int)))), (("faults" : St9), (sO9 (cD9 [Sum.inr ("own" : St9), Sum.inr ("back" : St9)] [(sV9 (r.2.2.2.2.2.2.1 : Int)), (sV9 (r.2.2.2.2.2.2.2 : Int))])))]))]
abbrev A_Job_init {K : PySem.W.Frag} {mg : Str → Option Value} (W : Wd K mg) (p0 : PySem.Addr) (a1 : Int) (a2 : (List Int)) (a3 : Int) : List J.Slot := [(sR9 (.ref p0)), (sV9 (a1 : Int)), (sV9 (a2 : (List Int))), (sV9 (a3 : Int))]
abbrev D_Job_init {K : PySem.W.Frag} {mg : Str → Option Value} (W : Wd K mg) (p0 : PySem.Addr) (a1 : Int) (a2 : (List Int)) (a3 : Int) : List (PySem.Addr × J.Cel) := [(p0, (cI9 W.C_Job []))]
def F_Job_init {K : PySem.W.Frag} {mg : Str → Option Value} (W : Wd K mg)  : J.FS G_Job_init where
  pre := fun g => m_Job_init g.a1 g.a2 g.a3 = some g.out
  preG := fun _ _ => True
  args := fun g => A_Job_init W g.p0 g.a1 g.a2 g.a3
  cells := fun g => D_Job_init W g.p0 g.a1 g.a2 g.a3
  res := fun g => R_Job_init W g.out
  cells' := fun g => C_Job_init W g.p0 g.a1 g.a2 g.a3 g.out
theorem ok_Job_init (W : Wd K mg) : FnOk P w K mg base CX0 1 W.a_Job_init W.d_Job_init ["self", "number", "trace", "window"] (F_Job_init (W)).sp := by
  refine J.fn_okD (F_Job_init (W)) W.F_Job_init sc_Job_init (fun g => rfl) (fun g => by intro s hs; simp only [F_Job_init, List.mem_cons, List.not_mem_nil, or_false] at hs; rcases hs with rfl | rfl | rfl | rfl <;> first | rfl | exact J.xsl_plain) (fun cdv A outer s H E hr B g h hG => ?_)
  have hN := (sc_Job_init).nd
  obtain ⟨p0, a1, a2, a3, r0⟩ := g
  change m_Job_init a1 a2 a3 = some r0 at h
  unfold m_Job_init at h
  change J.JS _ B (⟨[(sR9 (.ref p0)), (sV9 (a1 : Int)), (sV9 (a2 : (List Int))), (sV9 (a3 : Int))], [(p0, (cI9 W.C_Job []))]⟩ : J.Stt) _ (J.fend B (F_Job_init (W)) ⟨p0, a1, a2, a3, r0⟩)
  refine J.js_fputA 0 W.cl_Job W.na_Job_number (J.je_var 1 rfl) (J.je_var 0 rfl) rfl ?_
  change J.JS _ _ (⟨[(sR9 (.ref p0)), (sV9 (a1 : Int)), (sV9 (a2 : (List Int))), (sV9 (a3 : Int))], [(p0, (cI9 W.C_Job [(("number" : St9), (sV9 (a1 : Int)))]))]⟩ : J.Stt) _ _
  refine J.js_fputA 0 W.cl_Job W.na_Job_trace (J.je_var 2 rfl) (J.je_var 0 rfl) rfl ?_
  change J.JS _ _ (⟨[(sR9 (.ref p0)), (sV9 (a1 : Int)), (sV9 (a2 : (List Int))), (sV9 (a3 : Int))], [(p0, (cI9 W.C_Job [(("number" : St9), (sV9 (a1 : Int))), (("trace" : St9), (sV9 (a2 : (List Int))))]))]⟩ : J.Stt) _ _
  refine J.js_fputA 0 W.cl_Job W.na_Job_window (J.je_var 3 rfl) (J.je_var 0 rfl) rfl ?_
  change J.JS _ _ (⟨[(sR9 (.ref p0)), (sV9 (a1 : Int)), (sV9 (a2 : (List Int))), (sV9 (a3 : Int))], [(p0, (cI9 W.C_Job [(("number" : St9), (sV9 (a1 : Int))), (("trace" : St9), (sV9 (a2 : (List Int)))), (("window" : St9), (sV9 (a3 : Int)))]))]⟩ : J.Stt) _ _
  refine J.js_fputA 0 W.cl_Job W.na_Job_at J.je_int (J.je_var 0 rfl) rfl ?_
  change J.JS _ _ (⟨[(sR9 (.ref p0)), (sV9 (a1 : Int)), (sV9 (a2 : (List Int))), (sV9 (a3 : Int))], [(p0, (cI9 W.C_Job [(("number" : St9), (sV9 (a1 : Int))), (("trace" : St9), (sV9 (a2 : (List Int)))), (("window" : St9), (sV9 (a3 : Int))), (("at" : St9), (sV9 (0 : Int)))]))]⟩ : J.Stt) _ _
  refine J.js_fputA 0 W.cl_Job W.na_Job_pages_in (J.je_disp0 (β := Bool)) (J.je_var 0 rfl) rfl ?_
  change J.JS _ _ (⟨[(sR9 (.ref p0)), (sV9 (a1 : Int)), (sV9 (a2 : (List Int))), (sV9 (a3 : Int))], [(p0, (cI9 W.C_Job [(("number" : St9), (sV9 (a1 : Int))), (("trace" : St9), (sV9 (a2 : (List Int)))), (("window" : St9), (sV9 (a3 : Int))), (("at" : St9), (sV9 (0 : Int))), (("pages_in" : St9), (sO9 (cD9 (J.dks (([] : List (Int × Bool)) : List (Int × Bool))) (J.dss (([] : List (Int × Bool)) : List (Int × Bool))))))]))]⟩ : J.Stt) _ _
  refine J.js_fputA 0 W.cl_Job W.na_Job_on_since (J.je_nonO (α := Int) J.je_non) (J.je_var 0 rfl) rfl ?_
  change J.JS _ _ (⟨[(sR9 (.ref p0)), (sV9 (a1 : Int)), (sV9 (a2 : (List Int))), (sV9 (a3 : Int))], [(p0, (cI9 W.C_Job [(("number" : St9), (sV9 (a1 : Int))), (("trace" : St9), (sV9 (a2 : (List Int)))), (("window" : St9), (sV9 (a3 : Int))), (("at" : St9), (sV9 (0 : Int))), (("pages_in" : St9), (sO9 (cD9 (J.dks (([] : List (Int × Bool)) : List (Int × Bool))) (J.dss (([] : List (Int × Bool)) : List (Int × Bool)))))), (("on_since" : St9), (sV9 (none : (Option Int))))]))]⟩ : J.Stt) _ _
  refine J.js_fputA 0 W.cl_Job W.na_Job_faults (J.je_dispH (kvs := [(_, _), (_, _)]) (J.jps_cons (key := ("own" : St9)) (J.je_globS W.gS_OWN) J.je_int (J.jps_cons (key := ("back" : St9)) (J.je_globS W.gS_BACK) J.je_int J.jps_nil))) (J.je_var 0 rfl) rfl ?_
  change J.JS _ _ (⟨[(sR9 (.ref p0)), (sV9 (a1 : Int)), (sV9 (a2 : (List Int))), (sV9 (a3 : Int))], [(p0, (cI9 W.C_Job [(("number" : St9), (sV9 (a1 : Int))), (("trace" : St9), (sV9 (a2 : (List Int)))), (("window" : St9), (sV9 (a3 : Int))), (("at" : St9), (sV9 (0 : Int))), (("pages_in" : St9), (sO9 (cD9 (J.dks (([] : List (Int × Bool)) : List (Int × Bool))) (J.dss (([] : List (Int × Bool)) : List (Int × Bool)))))), (("on_since" : St9), (sV9 (none : (Option Int)))), (("faults" : St9), (sO9 (cD9 [Sum.inr ("own" : St9), Sum.inr ("back" : St9)] [(sV9 (0 : Int)), (sV9 (0 : Int))])))]))]⟩ : J.Stt) _ _
  have h9 := Option.some.inj h
  subst h9
  exact J.js_fin 1 rfl rfl
structure G_Job_is_done where
  p0 : PySem.Addr
  a0_0 : Int
  a0_1 : (List Int)
  a0_2 : Int
  a0_3 : Int
  a0_4 : (List (Int × Bool))
  a0_5 : (Option Int)
  a0_6_0 : Int
  a0_6_1 : Int
  out : Bool
abbrev R_Job_is_done {K : PySem.W.Frag} {mg : Str → Option Value} (W : Wd K mg) (r : Bool) : J.Slot := (sV9 (r : Bool))
abbrev C_Job_is_done {K : PySem.W.Frag} {mg : Str → Option Value} (W : Wd K mg) (p0 : PySem.Addr) (a0_0 : Int) (a0_1 : (List Int)) (a0_2 : Int) (a0_3 : Int) (a0_4 : (List (Int × Bool))) (a0_5 : (Option Int)) (a0_6_0 : Int) (a0_6_1 : Int) (r : Bool) : List (PySem.Addr × J.Cel) := [(p0, (cI9 W.C_Job [(("number" : St9), (sV9 (a0_0 : Int))), (("trace" : St9), (sV9 (a0_1 : (List Int)))), (("window" : St9), (sV9 (a0_2 : Int))), (("at" : St9), (sV9 (a0_3 : Int))), (("pages_in" : St9), (sO9 (cD9 (J.dks (a0_4 : List (Int × Bool))) (J.dss (a0_4 : List (Int × Bool)))))), (("on_since" : St9), (sV9 (a0_5 : (Option Int)))), (("faults" : St9), (sO9 (cD9 [Sum.inr ("own" : St9), Sum.inr ("back" : St9)] [(sV9 (a0_6_0 : Int)), (sV9 (a0_6_1 : Int))])))]))]
abbrev A_Job_is_done {K : PySem.W.Frag} {mg : Str → Option Value} (W : Wd K mg) (p0 : PySem.Addr) (a0_0 : Int) (a0_1 : (List Int)) (a0_2 : Int) (a0_3 : Int) (a0_4 : (List (Int × Bool))) (a0_5 : (Option Int)) (a0_6_0 : Int) (a0_6_1 : Int) : List J.Slot := [(sR9 (.ref p0))]
abbrev D_Job_is_done {K : PySem.W.Frag} {mg : Str → Option Value} (W : Wd K mg) (p0 : PySem.Addr) (a0_0 : Int) (a0_1 : (List Int)) (a0_2 : Int) (a0_3 : Int) (a0_4 : (List (Int × Bool))) (a0_5 : (Option Int)) (a0_6_0 : Int) (a0_6_1 : Int) : List (PySem.Addr × J.Cel) := [(p0, (cI9 W.C_Job [(("number" : St9), (sV9 (a0_0 : Int))), (("trace" : St9), (sV9 (a0_1 : (List Int)))), (("window" : St9), (sV9 (a0_2 : Int))), (("at" : St9), (sV9 (a0_3 : Int))), (("pages_in" : St9), (sO9 (cD9 (J.dks (a0_4 : List (Int × Bool))) (J.dss (a0_4 : List (Int × Bool)))))), (("on_since" : St9), (sV9 (a0_5 : (Option Int)))), (("faults" : St9), (sO9 (cD9 [Sum.inr ("own" : St9), Sum.inr ("back" : St9)] [(sV9 (a0_6_0 : Int)), (sV9 (a0_6_1 : Int))])))]))]
def F_Job_is_done {K : PySem.W.Frag} {mg : Str → Option Value} (W : Wd K mg)  : J.FS G_Job_is_done where
  pre := fun g => m_Job_is_done g.a0_0 g.a0_1 g.a0_2 g.a0_3 g.a0_4 g.a0_5 g.a0_6_0 g.a0_6_1 = some g.out
  preG := fun _ _ => True
  args := fun g => A_Job_is_done W g.p0 g.a0_0 g.a0_1 g.a0_2 g.a0_3 g.a0_4 g.a0_5 g.a0_6_0 g.a0_6_1
  cells := fun g => D_Job_is_done W g.p0 g.a0_0 g.a0_1 g.a0_2 g.a0_3 g.a0_4 g.a0_5 g.a0_6_0 g.a0_6_1
  res := fun g => R_Job_is_done W g.out
  cells' := fun g => C_Job_is_done W g.p0 g.a0_0 g.a0_1 g.a0_2 g.a0_3 g.a0_4 g.a0_5 g.a0_6_0 g.a0_6_1 g.out
theorem ok_Job_is_done (W : Wd K mg) : FnOk P w K mg base CX0 1 W.a_Job_is_done W.d_Job_is_done ["self"] (F_Job_is_done (W)).sp := by
  refine J.fn_okD (F_Job_is_done (W)) W.F_Job_is_done sc_Job_is_done (fun g => rfl) (fun g => by intro s hs; simp only [F_Job_is_done, List.mem_cons, List.not_mem_nil, or_false] at hs; rcases hs with rfl <;> first | rfl | exact J.xsl_plain) (fun cdv A outer s H E hr B g h hG => ?_)
  have hN := (sc_Job_is_done).nd
  obtain ⟨p0, a0_0, a0_1, a0_2, a0_3, a0_4, a0_5, a0_6_0, a0_6_1, r0⟩ := g
  change m_Job_is_done a0_0 a0_1 a0_2 a0_3 a0_4 a0_5 a0_6_0 a0_6_1 = some r0 at h
  unfold m_Job_is_done at h
  change J.JS _ B (⟨[(sR9 (.ref p0))], [(p0, (cI9 W.C_Job [(("number" : St9), (sV9 (a0_0 : Int))), (("trace" : St9), (sV9 (a0_1 : (List Int)))), (("window" : St9), (sV9 (a0_2 : Int))), (("at" : St9), (sV9 (a0_3 : Int))), (("pages_in" : St9), (sO9 (cD9 (J.dks (a0_4 : List (Int × Bool))) (J.dss (a0_4 : List (Int × Bool)))))), (("on_since" : St9), (sV9 (a0_5 : (Option Int)))), (("faults" : St9), (sO9 (cD9 [Sum.inr ("own" : St9), Sum.inr ("back" : St9)] [(sV9 (a0_6_0 : Int)), (sV9 (a0_6_1 : Int))])))]))]⟩ : J.Stt) _ (J.fend B (F_Job_is_done (W)) ⟨p0, a0_0, a0_1, a0_2, a0_3, a0_4, a0_5, a0_6_0, a0_6_1, r0⟩)
  have h9 := Option.some.inj h
  subst h9
  exact J.js_ret (J.jc_eq (t := (a0_3 : Int)) (r := (((a0_1).length : Int) : Int)) hr (J.je_fget 0 W.cl_Job W.na_Job_at (J.je_var 0 rfl) rfl rfl) (J.je_len (n := "len") (xs := a0_1) W.l_len (J.je_fget 0 W.cl_Job W.na_Job_trace (J.je_var 0 rfl) rfl rfl) J.lv_val) J.dv_val J.dv_val) fun v H o => J.Out.take 1 o
structure G_Plan_init where
  p0 : PySem.Addr
  a1 : (List ((List Int) × Int))
  a2 : Int
  a3 : Int
  out : ((List (Int × ((List Int) × (Int × (Int × ((List (Int × Bool)) × ((Option Int) × (Int × Int)))))))) × (Int × (Int × ((List Int) × (Int × (List J.Hap))))))
abbrev R_Plan_init {K : PySem.W.Frag} {mg : Str → Option Value} (W : Wd K mg) (r : ((List (Int × ((List Int) × (Int × (Int × ((List (Int × Bool)) × ((Option Int) × (Int × Int)))))))) × (Int × (Int × ((List Int) × (Int × (List J.Hap))))))) : J.Slot := (sR9 .non)
abbrev C_Plan_init {K : PySem.W.Frag} {mg : Str → Option Value} (W : Wd K mg) (p0 : PySem.Addr) (a1 : (List ((List Int) × Int))) (a2 : Int) (a3 : Int) (r : ((List (Int × ((List Int) × (Int × (Int × ((List (Int × Bool)) × ((Option Int) × (Int × Int)))))))) × (Int × (Int × ((List Int) × (Int × (List J.Hap))))))) : List (PySem.Addr × J.Cel) := [(p0, (J.Cel.ex fun qs9 => (fun (W : Wd K mg) => (cI9 W.C_Plan [(("jobs" : St9), (sO9 (J.mlA (Cs0 W) W.qs (r.1 : (List (Int × ((List Int) × (Int × (Int × ((List (Int × Bool)) × ((Option Int) × (Int × Int)))))))))))), (("frames_there" : St9), (sV9 (r.2.1 : Int))), (("turn" : St9), (sV9 (r.2.2.1 : Int))), (("waiting" : St9), (sO9 (cL9 ((r.2.2.2.1 : List Int).map (J.refS W.qs))))), (("lettings" : St9), (sV9 (r.2.2.2.2.1 : Int))), (("told" : St9), (sO9 (cL9 ((r.2.2.2.2.2 : List J.Hap).map sV9))))])) { W with qs := qs9 }))]
abbrev A_Plan_init {K : PySem.W.Frag} {mg : Str → Option Value} (W : Wd K mg) (p0 : PySem.Addr) (a1 : (List ((List Int) × Int))) (a2 : Int) (a3 : Int) : List J.Slot := [(sR9 (.ref p0)), (sV9 (a1 : (List ((List Int) × Int)))), (sV9 (a2 : Int)), (sV9 (a3 : Int))]
abbrev D_Plan_init {K : PySem.W.Frag} {mg : Str → Option Value} (W : Wd K mg) (p0 : PySem.Addr) (a1 : (List ((List Int) × Int))) (a2 : Int) (a3 : Int) : List (PySem.Addr × J.Cel) := [(p0, (cI9 W.C_Plan []))]
def F_Plan_init {K : PySem.W.Frag} {mg : Str → Option Value} (W : Wd K mg)  : J.FS G_Plan_init where
  pre := fun g => m_Plan_init g.a1 g.a2 g.a3 = some g.out
  preG := fun _ _ => True
  args := fun g => A_Plan_init W g.p0 g.a1 g.a2 g.a3
  cells := fun g => D_Plan_init W g.p0 g.a1 g.a2 g.a3
  res := fun g => R_Plan_init W g.out
  cells' := fun g => C_Plan_init W g.p0 g.a1 g.a2 g.a3 g.out
theorem ok_Plan_init (W : Wd K mg) : FnOk P w K mg base CX0 3 W.a_Plan_init W.d_Plan_init ["self", "jobs", "frames", "turn"] (F_Plan_init (W)).sp := by
  refine J.fn_okD (F_Plan_init (W)) W.F_Plan_init sc_Plan_init (fun g => rfl) (fun g => by intro s hs; simp only [F_Plan_init, List.mem_cons, List.not_mem_nil, or_false] at hs; rcases hs with rfl | rfl | rfl | rfl <;> first | rfl | exact J.xsl_plain) (fun cdv A outer s H E hr B g h hG => ?_)
  have hN := (sc_Plan_init).nd
  obtain ⟨p0, a1, a2, a3, r0⟩ := g
  change m_Plan_init a1 a2 a3 = some r0 at h
  unfold m_Plan_init at h
  change J.JS _ B (⟨[(sR9 (.ref p0)), (sV9 (a1 : (List ((List Int) × Int)))), (sV9 (a2 : Int)), (sV9 (a3 : Int)), sA9, sA9, sA9, sA9], [(p0, (cI9 W.C_Plan []))]⟩ : J.Stt) _ (J.fend B (F_Plan_init (W)) ⟨p0, a1, a2, a3, r0⟩)
  obtain ⟨x5, hx5, h⟩ := J.bndE h
  refine J.js_fputA 0 W.cl_Plan W.na_Plan_jobs (J.je_lc (f := m_Plan_init_c0) (el := fun y9 => sO9 (Cs0 W y9)) (Sf := fun (s1 : Unit) => (⟨[(sR9 (.ref p0)), (sV9 (a1 : (List ((List Int) × Int)))), (sV9 (a2 : Int)), (sV9 (a3 : Int)), sA9, sA9, sA9, sA9], [(p0, (cI9 W.C_Plan []))]⟩ : J.Stt)) (Sb := fun (s1 : Unit) (x3 : (Int × ((List Int) × Int))) => (⟨[(sR9 (.ref p0)), (sV9 (a1 : (List ((List Int) × Int)))), (sV9 (a2 : Int)), (sV9 (a3 : Int)), sA9, (sV9 (x3.1 : Int)), (sV9 (x3.2.1 : (List Int))), (sV9 (x3.2.2 : Int))], [(p0, (cI9 W.C_Plan []))]⟩ : J.Stt)) (s0 := ()) (own := [(("number" : St9), 5), (("trace" : St9), 6), (("window" : St9), 7)]) (ws := [5, 6, 7]) (J.lcM_of hx5).2 (J.lcM_of hx5).1 hN (L2.blkOk_by (N := ["self", "jobs", "frames", "turn", "job", "number", "trace", "window"]) (sc := defScope s_Plan_init) (by decide +kernel)) (J.ji_enum (xs := a1) (ok := fun _ => True) W.l_enumerate (J.je_var 1 rfl) J.lv_val (fun _ _ => J.lv_val)) (J.le_fgt 1 (.keep (.keep (.keep (.keep (.drop (.drop (.drop (.drop .nil)))))))) rfl) (fun _ => trivial) (fun _ => J.any_at rfl) (by decide) (fun s1 x3 => fun s91 H91 C91 cl91 fp91 =>  J.inJG hN fun hN => (J.jg_pair (J.jgs_cons (J.jg_name 5 (hN := hN)) (J.jgs_cons (J.jg_pair (J.jgs_cons (J.jg_name 6 (hN := hN)) (J.jgs_cons (J.jg_name 7 (hN := hN)) J.jgs_nil))) J.jgs_nil)))) (fun s1 x3 o sZ _ h => by
      unfold m_Plan_init_c0 at h
      obtain ⟨x4, hx4, h⟩ := J.bndE h
      obtain ⟨h8, h9⟩ := Prod.mk.inj (Option.some.inj h)
      subst h8
      subst h9
      exact ⟨true, _, (fun s91 H91 C91 cl91 fp91 =>  J.jts_nil), fun _ => ⟨_, _, rfl, (fun s91 H91 C91 cl91 fp91 =>  J.inJE hr hN fun hr hN => (J.je_mk (fr := F_Job_init W) (fs' := [(("number" : St9), (sV9 (x4.1 : Int))), (("trace" : St9), (sV9 (x4.2.1 : (List Int)))), (("window" : St9), (sV9 (x4.2.2.1 : Int))), (("at" : St9), (sV9 (x4.2.2.2.1 : Int))), (("pages_in" : St9), (sO9 (cD9 (J.dks (x4.2.2.2.2.1 : List (Int × Bool))) (J.dss (x4.2.2.2.2.1 : List (Int × Bool)))))), (("on_since" : St9), (sV9 (x4.2.2.2.2.2.1 : (Option Int)))), (("faults" : St9), (sO9 (cD9 [Sum.inr ("own" : St9), Sum.inr ("back" : St9)] [(sV9 (x4.2.2.2.2.2.2.1 : Int)), (sV9 (x4.2.2.2.2.2.2.2 : Int))])))]) W.k_Job_init (ok_Job_init W) hr (by decide) W.gC_Job W.b_Job_init (J.ja_cons (J.je_var 5 rfl) (J.ja_cons (J.je_var 6 rfl) (J.ja_cons (J.je_var 7 rfl) J.ja_nil))) (fun p9 => (⟨p9, x3.1, x3.2.1, x3.2.2, x4⟩ : G_Job_init)) (fun _ => hx4) (fun _ => rfl) (fun _ => rfl) (fun _ => rfl) (fun _ => rfl))), (J.le_fgt 1 (.keep (.keep (.keep (.keep (.drop (.drop (.drop (.drop .nil)))))))) rfl)⟩, nofun⟩)) (J.je_var 0 rfl) rfl ?_
  change J.JS _ _ (⟨[(sR9 (.ref p0)), (sV9 (a1 : (List ((List Int) × Int)))), (sV9 (a2 : Int)), (sV9 (a3 : Int)), sA9, sA9, sA9, sA9], [(p0, (cI9 W.C_Plan [(("jobs" : St9), (sO9 (J.mlC (Cs0 W) (x5.1 : (List (Int × ((List Int) × (Int × (Int × ((List (Int × Bool)) × ((Option Int) × (Int × Int))))))))))))]))]⟩ : J.Stt) _ _
  refine J.js_fputA 0 W.cl_Plan W.na_Plan_frames_there (J.je_var 2 rfl) (J.je_var 0 rfl) rfl ?_
  change J.JS _ _ (⟨[(sR9 (.ref p0)), (sV9 (a1 : (List ((List Int) × Int)))), (sV9 (a2 : Int)), (sV9 (a3 : Int)), sA9, sA9, sA9, sA9], [(p0, (cI9 W.C_Plan [(("jobs" : St9), (sO9 (J.mlC (Cs0 W) (x5.1 : (List (Int × ((List Int) × (Int × (Int × ((List (Int × Bool)) × ((Option Int) × (Int × Int)))))))))))), (("frames_there" : St9), (sV9 (a2 : Int)))]))]⟩ : J.Stt) _ _
  refine J.js_fputA 0 W.cl_Plan W.na_Plan_turn (J.je_var 3 rfl) (J.je_var 0 rfl) rfl ?_
  change J.JS _ _ (⟨[(sR9 (.ref p0)), (sV9 (a1 : (List ((List Int) × Int)))), (sV9 (a2 : Int)), (sV9 (a3 : Int)), sA9, sA9, sA9, sA9], [(p0, (cI9 W.C_Plan [(("jobs" : St9), (sO9 (J.mlC (Cs0 W) (x5.1 : (List (Int × ((List Int) × (Int × (Int × ((List (Int × Bool)) × ((Option Int) × (Int × Int)))))))))))), (("frames_there" : St9), (sV9 (a2 : Int))), (("turn" : St9), (sV9 (a3 : Int)))]))]⟩ : J.Stt) _ _
  refine J.js_open 0 0 rfl rfl fun p6 => ?_
  change J.JS _ _ (⟨[(sR9 (.ref p0)), (sV9 (a1 : (List ((List Int) × Int)))), (sV9 (a2 : Int)), (sV9 (a3 : Int)), sA9, sA9, sA9, sA9], [(p0, (cI9 W.C_Plan [(("jobs" : St9), (sR9 (.ref p6))), (("frames_there" : St9), (sV9 (a2 : Int))), (("turn" : St9), (sV9 (a3 : Int)))])), (p6, (J.mlC (Cs0 W) (x5.1 : (List (Int × ((List Int) × (Int × (Int × ((List (Int × Bool)) × ((Option Int) × (Int × Int)))))))))))]⟩ : J.Stt) _ _
  refine J.js_exposeM (f := Cs0 W) (xs := (x5.1 : (List (Int × ((List Int) × (Int × (Int × ((List (Int × Bool)) × ((Option Int) × (Int × Int)))))))))) 1 rfl fun q7 hq7 => ?_
  let W : Wd K mg := { W with qs := q7 }
  change J.JS _ _ (⟨[(sR9 (.ref p0)), (sV9 (a1 : (List ((List Int) × Int)))), (sV9 (a2 : Int)), (sV9 (a3 : Int)), sA9, sA9, sA9, sA9], [(p0, (cI9 W.C_Plan [(("jobs" : St9), (sR9 (.ref p6))), (("frames_there" : St9), (sV9 (a2 : Int))), (("turn" : St9), (sV9 (a3 : Int)))])), (p6, (J.mlA (Cs0 W) W.qs (x5.1 : (List (Int × ((List Int) × (Int × (Int × ((List (Int × Bool)) × ((Option Int) × (Int × Int)))))))))))]⟩ : J.Stt) _ _
  obtain ⟨x13, hx13, h⟩ := J.bndE h
  refine J.js_fputA 0 W.cl_Plan W.na_Plan_waiting (J.je_lcV (ei := J.refS W.qs) (f := m_Plan_init_c1 x5) (el := (J.refS W.qs)) (Sf := fun (s8 : Unit) => (⟨[(sR9 (.ref p0)), (sV9 (a1 : (List ((List Int) × Int)))), (sV9 (a2 : Int)), (sV9 (a3 : Int)), sA9, sA9, sA9, sA9], [(p0, (cI9 W.C_Plan [(("jobs" : St9), (sR9 (.ref p6))), (("frames_there" : St9), (sV9 (a2 : Int))), (("turn" : St9), (sV9 (a3 : Int)))])), (p6, (J.mlA (Cs0 W) W.qs (x5.1 : (List (Int × ((List Int) × (Int × (Int × ((List (Int × Bool)) × ((Option Int) × (Int × Int)))))))))))]⟩ : J.Stt)) (Sb := fun (s8 : Unit) (x10 : Int) => (⟨[(sR9 (.ref p0)), (sV9 (a1 : (List ((List Int) × Int)))), (sV9 (a2 : Int)), (sV9 (a3 : Int)), (J.refS W.qs (x10 : Int)), sA9, sA9, sA9], [(p0, (cI9 W.C_Plan [(("jobs" : St9), (sR9 (.ref p6))), (("frames_there" : St9), (sV9 (a2 : Int))), (("turn" : St9), (sV9 (a3 : Int)))])), (p6, (J.mlA (Cs0 W) W.qs (x5.1 : (List (Int × ((List Int) × (Int × (Int × ((List (Int × Bool)) × ((Option Int) × (Int × Int)))))))))))]⟩ : J.Stt)) (s0 := ()) (own := [(("job" : St9), 4)]) (ws := [4]) (J.lcM_of hx13).2 (J.lcM_of hx13).1 hN (L2.blkOk_by (N := ["self", "jobs", "frames", "turn", "job", "number", "trace", "window"]) (sc := defScope s_Plan_init) (by decide +kernel)) (J.ji_mlRf (f := Cs0 W) (xs := (x5.1 : (List (Int × ((List Int) × (Int × (Int × ((List (Int × Bool)) × ((Option Int) × (Int × Int)))))))))) (qs := W.qs) 1 (J.je_fget 0 W.cl_Plan W.na_Plan_jobs (J.je_var 0 rfl) rfl rfl) rfl) (J.le_fgt 2 (.keep (.keep (.keep (.keep (.drop (.drop (.drop (.drop .nil)))))))) rfl) (fun _ => ⟨_, rfl, rfl⟩) (fun _ => J.any_at rfl) (by decide) (fun s8 x10 => fun s91 H91 C91 cl91 fp91 =>  J.inJG hN fun hN => (J.jg_name 4 (hN := hN))) (fun s8 x10 o sZ _ h => by
      unfold m_Plan_init_c1 at h
      obtain ⟨x11, hx11, h⟩ := J.bndE h
      obtain ⟨x12, hx12, h⟩ := J.bndE h
      by_cases hp : (!x12) = true
      · replace h := J.ifT hp h
        obtain ⟨h8, h9⟩ := Prod.mk.inj (Option.some.inj h)
        subst h8
        subst h9
        exact ⟨true, _, (fun s91 H91 C91 cl91 fp91 =>  J.inJTs hr hN fun hr hN => J.jts_one (J.jt_eq (J.jt_not (J.jt_bl (J.je_atRf (f := Cs0 W) (xs := (x5.1 : (List (Int × ((List Int) × (Int × (Int × ((List (Int × Bool)) × ((Option Int) × (Int × Int)))))))))) (qs := W.qs) (n := x10) 1 2 hx11 rfl rfl (NGCs0 W) (J.je_mth0 (fr := F_Job_is_done W) 2 W.cl_Job W.m_Job_is_done (ok_Job_is_done W) hr (by decide) W.b_Job_is_done (J.je_var 4 rfl) rfl rfl (g := (⟨(W.qs.getD (x10).toNat 0), x11.1, x11.2.1, x11.2.2.1, x11.2.2.2.1, x11.2.2.2.2.1, x11.2.2.2.2.2.1, x11.2.2.2.2.2.2.1, x11.2.2.2.2.2.2.2, x12⟩ : G_Job_is_done)) hx12 rfl (.cons 2 rfl (by nofun) .nil) (.cons 2 rfl .nil) (hG := fun G e => trivial))))) hp)), fun _ => ⟨_, _, rfl, (fun s91 H91 C91 cl91 fp91 =>  J.inJE hr hN fun hr hN => (J.je_var 4 rfl)), (J.le_fgt 2 (.keep (.keep (.keep (.keep (.drop (.drop (.drop (.drop .nil)))))))) rfl)⟩, nofun⟩
      · rw [Bool.not_eq_true] at hp
        replace h := J.ifF hp h
        obtain ⟨h8, h9⟩ := Prod.mk.inj (Option.some.inj h)
        subst h8
        subst h9
        exact ⟨false, _, (fun s91 H91 C91 cl91 fp91 =>  J.inJTs hr hN fun hr hN => J.jts_one (J.jt_eq (J.jt_not (J.jt_bl (J.je_atRf (f := Cs0 W) (xs := (x5.1 : (List (Int × ((List Int) × (Int × (Int × ((List (Int × Bool)) × ((Option Int) × (Int × Int)))))))))) (qs := W.qs) (n := x10) 1 2 hx11 rfl rfl (NGCs0 W) (J.je_mth0 (fr := F_Job_is_done W) 2 W.cl_Job W.m_Job_is_done (ok_Job_is_done W) hr (by decide) W.b_Job_is_done (J.je_var 4 rfl) rfl rfl (g := (⟨(W.qs.getD (x10).toNat 0), x11.1, x11.2.1, x11.2.2.1, x11.2.2.2.1, x11.2.2.2.2.1, x11.2.2.2.2.2.1, x11.2.2.2.2.2.2.1, x11.2.2.2.2.2.2.2, x12⟩ : G_Job_is_done)) hx12 rfl (.cons 2 rfl (by nofun) .nil) (.cons 2 rfl .nil) (hG := fun G e => trivial))))) hp)), nofun, fun _ => ⟨rfl, (J.le_fgt 2 (.keep (.keep (.keep (.keep (.drop (.drop (.drop (.drop .nil)))))))) rfl)⟩⟩)) (J.je_var 0 rfl) rfl ?_
  change J.JS _ _ (⟨[(sR9 (.ref p0)), (sV9 (a1 : (List ((List Int) × Int)))), (sV9 (a2 : Int)), (sV9 (a3 : Int)), sA9, sA9, sA9, sA9], [(p0, (cI9 W.C_Plan [(("jobs" : St9), (sR9 (.ref p6))), (("frames_there" : St9), (sV9 (a2 : Int))), (("turn" : St9), (sV9 (a3 : Int))), (("waiting" : St9), (sO9 (cL9 ((x13.1 : List Int).map (J.refS W.qs)))))])), (p6, (J.mlA (Cs0 W) W.qs (x5.1 : (List (Int × ((List Int) × (Int × (Int × ((List (Int × Bool)) × ((Option Int) × (Int × Int)))))))))))]⟩ : J.Stt) _ _
  refine J.js_fold 0 1 0 1 rfl rfl rfl (by decide) J.mlA_ng ?_
  change J.JS _ _ (⟨[(sR9 (.ref p0)), (sV9 (a1 : (List ((List Int) × Int)))), (sV9 (a2 : Int)), (sV9 (a3 : Int)), sA9, sA9, sA9, sA9], [(p0, (cI9 W.C_Plan [(("jobs" : St9), (sO9 (J.mlA (Cs0 W) W.qs (x5.1 : (List (Int × ((List Int) × (Int × (Int × ((List (Int × Bool)) × ((Option Int) × (Int × Int)))))))))))), (("frames_there" : St9), (sV9 (a2 : Int))), (("turn" : St9), (sV9 (a3 : Int))), (("waiting" : St9), (sO9 (cL9 ((x13.1 : List Int).map (J.refS W.qs)))))]))]⟩ : J.Stt) _ _
  refine J.js_fputA 0 W.cl_Plan W.na_Plan_lettings J.je_int (J.je_var 0 rfl) rfl ?_
  change J.JS _ _ (⟨[(sR9 (.ref p0)), (sV9 (a1 : (List ((List Int) × Int)))), (sV9 (a2 : Int)), (sV9 (a3 : Int)), sA9, sA9, sA9, sA9], [(p0, (cI9 W.C_Plan [(("jobs" : St9), (sO9 (J.mlA (Cs0 W) W.qs (x5.1 : (List (Int × ((List Int) × (Int × (Int × ((List (Int × Bool)) × ((Option Int) × (Int × Int)))))))))))), (("frames_there" : St9), (sV9 (a2 : Int))), (("turn" : St9), (sV9 (a3 : Int))), (("waiting" : St9), (sO9 (cL9 ((x13.1 : List Int).map (J.refS W.qs))))), (("lettings" : St9), (sV9 (0 : Int)))]))]⟩ : J.Stt) _ _
  refine J.js_fputA 0 W.cl_Plan W.na_Plan_told (J.je_lstv (xs := ([] : List J.Hap)) J.ja_nil) (J.je_var 0 rfl) rfl ?_
  change J.JS _ _ (⟨[(sR9 (.ref p0)), (sV9 (a1 : (List ((List Int) × Int)))), (sV9 (a2 : Int)), (sV9 (a3 : Int)), sA9, sA9, sA9, sA9], [(p0, (cI9 W.C_Plan [(("jobs" : St9), (sO9 (J.mlA (Cs0 W) W.qs (x5.1 : (List (Int × ((List Int) × (Int × (Int × ((List (Int × Bool)) × ((Option Int) × (Int × Int)))))))))))), (("frames_there" : St9), (sV9 (a2 : Int))), (("turn" : St9), (sV9 (a3 : Int))), (("waiting" : St9), (sO9 (cL9 ((x13.1 : List Int).map (J.refS W.qs))))), (("lettings" : St9), (sV9 (0 : Int))), (("told" : St9), (sO9 (cL9 ((([] : List J.Hap) : List J.Hap).map sV9))))]))]⟩ : J.Stt) _ _
  have h9 := Option.some.inj h
  subst h9
  refine J.js_le (J.le_hideX (f := fun qs9 => (fun (W : Wd K mg) => (cI9 W.C_Plan [(("jobs" : St9), (sO9 (J.mlA (Cs0 W) W.qs (x5.1 : (List (Int × ((List Int) × (Int × (Int × ((List (Int × Bool)) × ((Option Int) × (Int × Int)))))))))))), (("frames_there" : St9), (sV9 (a2 : Int))), (("turn" : St9), (sV9 (a3 : Int))), (("waiting" : St9), (sO9 (cL9 ((x13.1 : List Int).map (J.refS W.qs))))), (("lettings" : St9), (sV9 (0 : Int))), (("told" : St9), (sO9 (cL9 ((([] : List J.Hap) : List J.Hap).map sV9))))])) { W with qs := qs9 }) (qs := q7) 0 rfl (by nofun)) ?_
  exact J.js_fin 1 rfl rfl
structure G_Job_is_on where
  p0 : PySem.Addr
  a0_0 : Int
  a0_1 : (List Int)
  a0_2 : Int
  a0_3 : Int
  a0_4 : (List (Int × Bool))
  a0_5 : (Option Int)
  a0_6_0 : Int
  a0_6_1 : Int
  out : Bool
abbrev R_Job_is_on {K : PySem.W.Frag} {mg : Str → Option Value} (W : Wd K mg) (r : Bool) : J.Slot := (sV9 (r : Bool))
abbrev C_Job_is_on {K : PySem.W.Frag} {mg : Str → Option Value} (W : Wd K mg) (p0 : PySem.Addr) (a0_0 : Int) (a0_1 : (List Int)) (a0_2 : Int) (a0_3 : Int) (a0_4 : (List (Int × Bool))) (a0_5 : (Option Int)) (a0_6_0 : Int) (a0_6_1 : Int) (r : Bool) : List (PySem.Addr × J.Cel) := [(p0, (cI9 W.C_Job [(("number" : St9), (sV9 (a0_0 : Int))), (("trace" : St9), (sV9 (a0_1 : (List Int)))), (("window" : St9), (sV9 (a0_2 : Int))), (("at" : St9), (sV9 (a0_3 : Int))), (("pages_in" : St9), (sO9 (cD9 (J.dks (a0_4 : List (Int × Bool))) (J.dss (a0_4 : List (Int × Bool)))))), (("on_since" : St9), (sV9 (a0_5 : (Option Int)))), (("faults" : St9), (sO9 (cD9 [Sum.inr ("own" : St9), Sum.inr ("back" : St9)] [(sV9 (a0_6_0 : Int)), (sV9 (a0_6_1 : Int))])))]))]
abbrev A_Job_is_on {K : PySem.W.Frag} {mg : Str → Option Value} (W : Wd K mg) (p0 : PySem.Addr) (a0_0 : Int) (a0_1 : (List Int)) (a0_2 : Int) (a0_3 : Int) (a0_4 : (List (Int × Bool))) (a0_5 : (Option Int)) (a0_6_0 : Int) (a0_6_1 : Int) : List J.Slot := [(sR9 (.ref p0))]
abbrev D_Job_is_on {K : PySem.W.Frag} {mg : Str → Option Value} (W : Wd K mg) (p0 : PySem.Addr) (a0_0 : Int) (a0_1 : (List Int)) (a0_2 : Int) (a0_3 : Int) (a0_4 : (List (Int × Bool))) (a0_5 : (Option Int)) (a0_6_0 : Int) (a0_6_1 : Int) : List (PySem.Addr × J.Cel) := [(p0, (cI9 W.C_Job [(("number" : St9), (sV9 (a0_0 : Int))), (("trace" : St9), (sV9 (a0_1 : (List Int)))), (("window" : St9), (sV9 (a0_2 : Int))), (("at" : St9), (sV9 (a0_3 : Int))), (("pages_in" : St9), (sO9 (cD9 (J.dks (a0_4 : List (Int × Bool))) (J.dss (a0_4 : List (Int × Bool)))))), (("on_since" : St9), (sV9 (a0_5 : (Option Int)))), (("faults" : St9), (sO9 (cD9 [Sum.inr ("own" : St9), Sum.inr ("back" : St9)] [(sV9 (a0_6_0 : Int)), (sV9 (a0_6_1 : Int))])))]))]
def F_Job_is_on {K : PySem.W.Frag} {mg : Str → Option Value} (W : Wd K mg)  : J.FS G_Job_is_on where
  pre := fun g => m_Job_is_on g.a0_0 g.a0_1 g.a0_2 g.a0_3 g.a0_4 g.a0_5 g.a0_6_0 g.a0_6_1 = some g.out
  preG := fun _ _ => True
  args := fun g => A_Job_is_on W g.p0 g.a0_0 g.a0_1 g.a0_2 g.a0_3 g.a0_4 g.a0_5 g.a0_6_0 g.a0_6_1
  cells := fun g => D_Job_is_on W g.p0 g.a0_0 g.a0_1 g.a0_2 g.a0_3 g.a0_4 g.a0_5 g.a0_6_0 g.a0_6_1
  res := fun g => R_Job_is_on W g.out
  cells' := fun g => C_Job_is_on W g.p0 g.a0_0 g.a0_1 g.a0_2 g.a0_3 g.a0_4 g.a0_5 g.a0_6_0 g.a0_6_1 g.out
theorem ok_Job_is_on (W : Wd K mg) : FnOk P w K mg base CX0 1 W.a_Job_is_on W.d_Job_is_on ["self"] (F_Job_is_on (W)).sp := by
  refine J.fn_okD (F_Job_is_on (W)) W.F_Job_is_on sc_Job_is_on (fun g => rfl) (fun g => by intro s hs; simp only [F_Job_is_on, List.mem_cons, List.not_mem_nil, or_false] at hs; rcases hs with rfl <;> first | rfl | exact J.xsl_plain) (fun cdv A outer s H E hr B g h hG => ?_)
  have hN := (sc_Job_is_on).nd
  obtain ⟨p0, a0_0, a0_1, a0_2, a0_3, a0_4, a0_5, a0_6_0, a0_6_1, r0⟩ := g
  change m_Job_is_on a0_0 a0_1 a0_2 a0_3 a0_4 a0_5 a0_6_0 a0_6_1 = some r0 at h
  unfold m_Job_is_on at h
  change J.JS _ B (⟨[(sR9 (.ref p0))], [(p0, (cI9 W.C_Job [(("number" : St9), (sV9 (a0_0 : Int))), (("trace" : St9), (sV9 (a0_1 : (List Int)))), (("window" : St9), (sV9 (a0_2 : Int))), (("at" : St9), (sV9 (a0_3 : Int))), (("pages_in" : St9), (sO9 (cD9 (J.dks (a0_4 : List (Int × Bool))) (J.dss (a0_4 : List (Int × Bool)))))), (("on_since" : St9), (sV9 (a0_5 : (Option Int)))), (("faults" : St9), (sO9 (cD9 [Sum.inr ("own" : St9), Sum.inr ("back" : St9)] [(sV9 (a0_6_0 : Int)), (sV9 (a0_6_1 : Int))])))]))]⟩ : J.Stt) _ (J.fend B (F_Job_is_on (W)) ⟨p0, a0_0, a0_1, a0_2, a0_3, a0_4, a0_5, a0_6_0, a0_6_1, r0⟩)
  have h9 := Option.some.inj h
  subst h9
  exact J.js_ret (J.jc_notN (J.je_fget 0 W.cl_Job W.na_Job_on_since (J.je_var 0 rfl) rfl rfl) J.nn_opt) fun v H o => J.Out.take 1 o
structure G_Plan_on_now where
  p0 : PySem.Addr
  a0_0 : (List (Int × ((List Int) × (Int × (Int × ((List (Int × Bool)) × ((Option Int) × (Int × Int))))))))
  a0_1 : Int
  a0_2 : Int
  a0_3 : (List Int)
  a0_4 : Int
  a0_5 : (List J.Hap)
  out : (List Int)
abbrev R_Plan_on_now {K : PySem.W.Frag} {mg : Str → Option Value} (W : Wd K mg) (r : (List Int)) : J.Slot := (sO9 (cL9 ((r : List Int).map (J.refS W.qs))))
abbrev C_Plan_on_now {K : PySem.W.Frag} {mg : Str → Option Value} (W : Wd K mg) (p0 : PySem.Addr) (a0_0 : (List (Int × ((List Int) × (Int × (Int × ((List (Int × Bool)) × ((Option Int) × (Int × Int))))))))) (a0_1 : Int) (a0_2 : Int) (a0_3 : (List Int)) (a0_4 : Int) (a0_5 : (List J.Hap)) (r : (List Int)) : List (PySem.Addr × J.Cel) := [(p0, (cI9 W.C_Plan [(("jobs" : St9), (sO9 (J.mlA (Cs0 W) W.qs (a0_0 : (List (Int × ((List Int) × (Int × (Int × ((List (Int × Bool)) × ((Option Int) × (Int × Int)))))))))))), (("frames_there" : St9), (sV9 (a0_1 : Int))), (("turn" : St9), (sV9 (a0_2 : Int))), (("waiting" : St9), (sO9 (cL9 ((a0_3 : List Int).map (J.refS W.qs))))), (("lettings" : St9), (sV9 (a0_4 : Int))), (("told" : St9), (sO9 (cL9 ((a0_5 : List J.Hap).map sV9))))]))]
abbrev A_Plan_on_now {K : PySem.W.Frag} {mg : Str → Option Value} (W : Wd K mg) (p0 : PySem.Addr) (a0_0 : (List (Int × ((List Int) × (Int × (Int × ((List (Int × Bool)) × ((Option Int) × (Int × Int))))))))) (a0_1 : Int) (a0_2 : Int) (a0_3 : (List Int)) (a0_4 : Int) (a0_5 : (List J.Hap)) : List J.Slot := [(sR9 (.ref p0))]
abbrev D_Plan_on_now {K : PySem.W.Frag} {mg : Str → Option Value} (W : Wd K mg) (p0 : PySem.Addr) (a0_0 : (List (Int × ((List Int) × (Int × (Int × ((List (Int × Bool)) × ((Option Int) × (Int × Int))))))))) (a0_1 : Int) (a0_2 : Int) (a0_3 : (List Int)) (a0_4 : Int) (a0_5 : (List J.Hap)) : List (PySem.Addr × J.Cel) := [(p0, (cI9 W.C_Plan [(("jobs" : St9), (sO9 (J.mlA (Cs0 W) W.qs (a0_0 : (List (Int × ((List Int) × (Int × (Int × ((List (Int × Bool)) × ((Option Int) × (Int × Int)))))))))))), (("frames_there" : St9), (sV9 (a0_1 : Int))), (("turn" : St9), (sV9 (a0_2 : Int))), (("waiting" : St9), (sO9 (cL9 ((a0_3 : List Int).map (J.refS W.qs))))), (("lettings" : St9), (sV9 (a0_4 : Int))), (("told" : St9), (sO9 (cL9 ((a0_5 : List J.Hap).map sV9))))]))]
def F_Plan_on_now {K : PySem.W.Frag} {mg : Str → Option Value} (W : Wd K mg)  : J.FS G_Plan_on_now where
  pre := fun g => m_Plan_on_now g.a0_0 g.a0_1 g.a0_2 g.a0_3 g.a0_4 g.a0_5 = some g.out
  preG := fun _ _ => True
  args := fun g => A_Plan_on_now W g.p0 g.a0_0 g.a0_1 g.a0_2 g.a0_3 g.a0_4 g.a0_5
  cells := fun g => D_Plan_on_now W g.p0 g.a0_0 g.a0_1 g.a0_2 g.a0_3 g.a0_4 g.a0_5
  res := fun g => R_Plan_on_now W g.out
  cells' := fun g => C_Plan_on_now W g.p0 g.a0_0 g.a0_1 g.a0_2 g.a0_3 g.a0_4 g.a0_5 g.out
theorem ok_Plan_on_now (W : Wd K mg) : FnOk P w K mg base CX0 2 W.a_Plan_on_now W.d_Plan_on_now ["self"] (F_Plan_on_now (W)).sp := by
  refine J.fn_okD (F_Plan_on_now (W)) W.F_Plan_on_now sc_Plan_on_now (fun g => rfl) (fun g => by intro s hs; simp only [F_Plan_on_now, List.mem_cons, List.not_mem_nil, or_false] at hs; rcases hs with rfl <;> first | rfl | exact J.xsl_plain) (fun cdv A outer s H E hr B g h hG => ?_)
  have hN := (sc_Plan_on_now).nd
  obtain ⟨p0, a0_0, a0_1, a0_2, a0_3, a0_4, a0_5, r0⟩ := g
  change m_Plan_on_now a0_0 a0_1 a0_2 a0_3 a0_4 a0_5 = some r0 at h
  unfold m_Plan_on_now at h
  change J.JS _ B (⟨[(sR9 (.ref p0)), sA9], [(p0, (cI9 W.C_Plan [(("jobs" : St9), (sO9 (J.mlA (Cs0 W) W.qs (a0_0 : (List (Int × ((List Int) × (Int × (Int × ((List (Int × Bool)) × ((Option Int) × (Int × Int)))))))))))), (("frames_there" : St9), (sV9 (a0_1 : Int))), (("turn" : St9), (sV9 (a0_2 : Int))), (("waiting" : St9), (sO9 (cL9 ((a0_3 : List Int).map (J.refS W.qs))))), (("lettings" : St9), (sV9 (a0_4 : Int))), (("told" : St9), (sO9 (cL9 ((a0_5 : List J.Hap).map sV9))))]))]⟩ : J.Stt) _ (J.fend B (F_Plan_on_now (W)) ⟨p0, a0_0, a0_1, a0_2, a0_3, a0_4, a0_5, r0⟩)
  refine J.js_open 0 0 rfl rfl fun p1 => ?_
  change J.JS _ _ (⟨[(sR9 (.ref p0)), sA9], [(p0, (cI9 W.C_Plan [(("jobs" : St9), (sR9 (.ref p1))), (("frames_there" : St9), (sV9 (a0_1 : Int))), (("turn" : St9), (sV9 (a0_2 : Int))), (("waiting" : St9), (sO9 (cL9 ((a0_3 : List Int).map (J.refS W.qs))))), (("lettings" : St9), (sV9 (a0_4 : Int))), (("told" : St9), (sO9 (cL9 ((a0_5 : List J.Hap).map sV9))))])), (p1, (J.mlA (Cs0 W) W.qs (a0_0 : (List (Int × ((List Int) × (Int × (Int × ((List (Int × Bool)) × ((Option Int) × (Int × Int)))))))))))]⟩ : J.Stt) _ _
  obtain ⟨x7, hx7, h⟩ := J.bndE h
  have h9 := Option.some.inj h
  subst h9
  exact J.js_ret (J.je_le (J.je_le (J.je_lcV (ei := J.refS W.qs) (f := m_Plan_on_now_c0 a0_0) (el := (J.refS W.qs)) (Sf := fun (s2 : Unit) => (⟨[(sR9 (.ref p0)), sA9], [(p0, (cI9 W.C_Plan [(("jobs" : St9), (sR9 (.ref p1))), (("frames_there" : St9), (sV9 (a0_1 : Int))), (("turn" : St9), (sV9 (a0_2 : Int))), (("waiting" : St9), (sO9 (cL9 ((a0_3 : List Int).map (J.refS W.qs))))), (("lettings" : St9), (sV9 (a0_4 : Int))), (("told" : St9), (sO9 (cL9 ((a0_5 : List J.Hap).map sV9))))])), (p1, (J.mlA (Cs0 W) W.qs (a0_0 : (List (Int × ((List Int) × (Int × (Int × ((List (Int × Bool)) × ((Option Int) × (Int × Int)))))))))))]⟩ : J.Stt)) (Sb := fun (s2 : Unit) (x4 : Int) => (⟨[(sR9 (.ref p0)), (J.refS W.qs (x4 : Int))], [(p0, (cI9 W.C_Plan [(("jobs" : St9), (sR9 (.ref p1))), (("frames_there" : St9), (sV9 (a0_1 : Int))), (("turn" : St9), (sV9 (a0_2 : Int))), (("waiting" : St9), (sO9 (cL9 ((a0_3 : List Int).map (J.refS W.qs))))), (("lettings" : St9), (sV9 (a0_4 : Int))), (("told" : St9), (sO9 (cL9 ((a0_5 : List J.Hap).map sV9))))])), (p1, (J.mlA (Cs0 W) W.qs (a0_0 : (List (Int × ((List Int) × (Int × (Int × ((List (Int × Bool)) × ((Option Int) × (Int × Int)))))))))))]⟩ : J.Stt)) (s0 := ()) (own := [(("job" : St9), 1)]) (ws := [1]) (J.lcM_of hx7).2 (J.lcM_of hx7).1 hN (L2.blkOk_by (N := ["self", "job"]) (sc := defScope s_Plan_on_now) (by decide +kernel)) (J.ji_mlRf (f := Cs0 W) (xs := (a0_0 : (List (Int × ((List Int) × (Int × (Int × ((List (Int × Bool)) × ((Option Int) × (Int × Int)))))))))) (qs := W.qs) 1 (J.je_fget 0 W.cl_Plan W.na_Plan_jobs (J.je_var 0 rfl) rfl rfl) rfl) (J.le_fgt 2 (.keep (.drop .nil)) rfl) (fun _ => ⟨_, rfl, rfl⟩) (fun _ => J.any_at rfl) (by decide) (fun s2 x4 => fun s91 H91 C91 cl91 fp91 =>  J.inJG hN fun hN => (J.jg_name 1 (hN := hN))) (fun s2 x4 o sZ _ h => by
      unfold m_Plan_on_now_c0 at h
      obtain ⟨x5, hx5, h⟩ := J.bndE h
      obtain ⟨x6, hx6, h⟩ := J.bndE h
      by_cases hp : x6 = true
      · replace h := J.ifT hp h
        obtain ⟨h8, h9⟩ := Prod.mk.inj (Option.some.inj h)
        subst h8
        subst h9
        exact ⟨true, _, (fun s91 H91 C91 cl91 fp91 =>  J.inJTs hr hN fun hr hN => J.jts_one (J.jt_eq (J.jt_bl (J.je_atRf (f := Cs0 W) (xs := (a0_0 : (List (Int × ((List Int) × (Int × (Int × ((List (Int × Bool)) × ((Option Int) × (Int × Int)))))))))) (qs := W.qs) (n := x4) 1 2 hx5 rfl rfl (NGCs0 W) (J.je_mth0 (fr := F_Job_is_on W) 2 W.cl_Job W.m_Job_is_on (ok_Job_is_on W) hr (by decide) W.b_Job_is_on (J.je_var 1 rfl) rfl rfl (g := (⟨(W.qs.getD (x4).toNat 0), x5.1, x5.2.1, x5.2.2.1, x5.2.2.2.1, x5.2.2.2.2.1, x5.2.2.2.2.2.1, x5.2.2.2.2.2.2.1, x5.2.2.2.2.2.2.2, x6⟩ : G_Job_is_on)) hx6 rfl (.cons 2 rfl (by nofun) .nil) (.cons 2 rfl .nil) (hG := fun G e => trivial)))) hp)), fun _ => ⟨_, _, rfl, (fun s91 H91 C91 cl91 fp91 =>  J.inJE hr hN fun hr hN => (J.je_var 1 rfl)), (J.le_fgt 2 (.keep (.drop .nil)) rfl)⟩, nofun⟩
      · rw [Bool.not_eq_true] at hp
        replace h := J.ifF hp h
        obtain ⟨h8, h9⟩ := Prod.mk.inj (Option.some.inj h)
        subst h8
        subst h9
        exact ⟨false, _, (fun s91 H91 C91 cl91 fp91 =>  J.inJTs hr hN fun hr hN => J.jts_one (J.jt_eq (J.jt_bl (J.je_atRf (f := Cs0 W) (xs := (a0_0 : (List (Int × ((List Int) × (Int × (Int × ((List (Int × Bool)) × ((Option Int) × (Int × Int)))))))))) (qs := W.qs) (n := x4) 1 2 hx5 rfl rfl (NGCs0 W) (J.je_mth0 (fr := F_Job_is_on W) 2 W.cl_Job W.m_Job_is_on (ok_Job_is_on W) hr (by decide) W.b_Job_is_on (J.je_var 1 rfl) rfl rfl (g := (⟨(W.qs.getD (x4).toNat 0), x5.1, x5.2.1, x5.2.2.1, x5.2.2.2.1, x5.2.2.2.2.1, x5.2.2.2.2.2.1, x5.2.2.2.2.2.2.1, x5.2.2.2.2.2.2.2, x6⟩ : G_Job_is_on)) hx6 rfl (.cons 2 rfl (by nofun) .nil) (.cons 2 rfl .nil) (hG := fun G e => trivial)))) hp)), nofun, fun _ => ⟨rfl, (J.le_fgt 2 (.keep (.drop .nil)) rfl)⟩⟩)) (J.le_fold 0 1 0 rfl rfl rfl (by decide) J.mlA_ng)) (J.le_take 1)) fun v H o => J.Out.take 1 o
structure G_Job_working_pages where
  p0 : PySem.Addr
  a0_0 : Int
  a0_1 : (List Int)
  a0_2 : Int
  a0_3 : Int
  a0_4 : (List (Int × Bool))
  a0_5 : (Option Int)
  a0_6_0 : Int
  a0_6_1 : Int
  out : (List (Int × Bool))
abbrev R_Job_working_pages {K : PySem.W.Frag} {mg : Str → Option Value} (W : Wd K mg) (r : (List (Int × Bool))) : J.Slot := (sO9 (cD9 (J.dks (r : List (Int × Bool))) (J.dss (r : List (Int × Bool)))))
abbrev C_Job_working_pages {K : PySem.W.Frag} {mg : Str → Option Value} (W : Wd K mg) (p0 : PySem.Addr) (a0_0 : Int) (a0_1 : (List Int)) (a0_2 : Int) (a0_3 : Int) (a0_4 : (List (Int × Bool))) (a0_5 : (Option Int)) (a0_6_0 : Int) (a0_6_1 : Int) (r : (List (Int × Bool))) : List (PySem.Addr × J.Cel) := [(p0, (cI9 W.C_Job [(("number" : St9), (sV9 (a0_0 : Int))), (("trace" : St9), (sV9 (a0_1 : (List Int)))), (("window" : St9), (sV9 (a0_2 : Int))), (("at" : St9), (sV9 (a0_3 : Int))), (("pages_in" : St9), (sO9 (cD9 (J.dks (a0_4 : List (Int × Bool))) (J.dss (a0_4 : List (Int × Bool)))))), (("on_since" : St9), (sV9 (a0_5 : (Option Int)))), (("faults" : St9), (sO9 (cD9 [Sum.inr ("own" : St9), Sum.inr ("back" : St9)] [(sV9 (a0_6_0 : Int)), (sV9 (a0_6_1 : Int))])))]))]
abbrev A_Job_working_pages {K : PySem.W.Frag} {mg : Str → Option Value} (W : Wd K mg) (p0 : PySem.Addr) (a0_0 : Int) (a0_1 : (List Int)) (a0_2 : Int) (a0_3 : Int) (a0_4 : (List (Int × Bool))) (a0_5 : (Option Int)) (a0_6_0 : Int) (a0_6_1 : Int) : List J.Slot := [(sR9 (.ref p0))]
abbrev D_Job_working_pages {K : PySem.W.Frag} {mg : Str → Option Value} (W : Wd K mg) (p0 : PySem.Addr) (a0_0 : Int) (a0_1 : (List Int)) (a0_2 : Int) (a0_3 : Int) (a0_4 : (List (Int × Bool))) (a0_5 : (Option Int)) (a0_6_0 : Int) (a0_6_1 : Int) : List (PySem.Addr × J.Cel) := [(p0, (cI9 W.C_Job [(("number" : St9), (sV9 (a0_0 : Int))), (("trace" : St9), (sV9 (a0_1 : (List Int)))), (("window" : St9), (sV9 (a0_2 : Int))), (("at" : St9), (sV9 (a0_3 : Int))), (("pages_in" : St9), (sO9 (cD9 (J.dks (a0_4 : List (Int × Bool))) (J.dss (a0_4 : List (Int × Bool)))))), (("on_since" : St9), (sV9 (a0_5 : (Option Int)))), (("faults" : St9), (sO9 (cD9 [Sum.inr ("own" : St9), Sum.inr ("back" : St9)] [(sV9 (a0_6_0 : Int)), (sV9 (a0_6_1 : Int))])))]))]
def F_Job_working_pages {K : PySem.W.Frag} {mg : Str → Option Value} (W : Wd K mg)  : J.FS G_Job_working_pages where
  pre := fun g => m_Job_working_pages g.a0_0 g.a0_1 g.a0_2 g.a0_3 g.a0_4 g.a0_5 g.a0_6_0 g.a0_6_1 = some g.out
  preG := fun _ _ => True
  args := fun g => A_Job_working_pages W g.p0 g.a0_0 g.a0_1 g.a0_2 g.a0_3 g.a0_4 g.a0_5 g.a0_6_0 g.a0_6_1
  cells := fun g => D_Job_working_pages W g.p0 g.a0_0 g.a0_1 g.a0_2 g.a0_3 g.a0_4 g.a0_5 g.a0_6_0 g.a0_6_1
  res := fun g => R_Job_working_pages W g.out
  cells' := fun g => C_Job_working_pages W g.p0 g.a0_0 g.a0_1 g.a0_2 g.a0_3 g.a0_4 g.a0_5 g.a0_6_0 g.a0_6_1 g.out
theorem ok_Job_working_pages (W : Wd K mg) : FnOk P w K mg base CX0 1 W.a_Job_working_pages W.d_Job_working_pages ["self"] (F_Job_working_pages (W)).sp := by
  refine J.fn_okD (F_Job_working_pages (W)) W.F_Job_working_pages sc_Job_working_pages (fun g => rfl) (fun g => by intro s hs; simp only [F_Job_working_pages, List.mem_cons, List.not_mem_nil, or_false] at hs; rcases hs with rfl <;> first | rfl | exact J.xsl_plain) (fun cdv A outer s H E hr B g h hG => ?_)
  have hN := (sc_Job_working_pages).nd
  obtain ⟨p0, a0_0, a0_1, a0_2, a0_3, a0_4, a0_5, a0_6_0, a0_6_1, r0⟩ := g
  change m_Job_working_pages a0_0 a0_1 a0_2 a0_3 a0_4 a0_5 a0_6_0 a0_6_1 = some r0 at h
  unfold m_Job_working_pages at h
  change J.JS _ B (⟨[(sR9 (.ref p0)), sA9], [(p0, (cI9 W.C_Job [(("number" : St9), (sV9 (a0_0 : Int))), (("trace" : St9), (sV9 (a0_1 : (List Int)))), (("window" : St9), (sV9 (a0_2 : Int))), (("at" : St9), (sV9 (a0_3 : Int))), (("pages_in" : St9), (sO9 (cD9 (J.dks (a0_4 : List (Int × Bool))) (J.dss (a0_4 : List (Int × Bool)))))), (("on_since" : St9), (sV9 (a0_5 : (Option Int)))), (("faults" : St9), (sO9 (cD9 [Sum.inr ("own" : St9), Sum.inr ("back" : St9)] [(sV9 (a0_6_0 : Int)), (sV9 (a0_6_1 : Int))])))]))]⟩ : J.Stt) _ (J.fend B (F_Job_working_pages (W)) ⟨p0, a0_0, a0_1, a0_2, a0_3, a0_4, a0_5, a0_6_0, a0_6_1, r0⟩)
  obtain ⟨x4, hx4, h⟩ := J.bndE h
  have h9 := Option.some.inj h
  subst h9
  exact J.js_ret (J.je_dc (f := m_Job_working_pages_c0) (Sf := fun (s1 : Unit) => (⟨[(sR9 (.ref p0)), sA9], [(p0, (cI9 W.C_Job [(("number" : St9), (sV9 (a0_0 : Int))), (("trace" : St9), (sV9 (a0_1 : (List Int)))), (("window" : St9), (sV9 (a0_2 : Int))), (("at" : St9), (sV9 (a0_3 : Int))), (("pages_in" : St9), (sO9 (cD9 (J.dks (a0_4 : List (Int × Bool))) (J.dss (a0_4 : List (Int × Bool)))))), (("on_since" : St9), (sV9 (a0_5 : (Option Int)))), (("faults" : St9), (sO9 (cD9 [Sum.inr ("own" : St9), Sum.inr ("back" : St9)] [(sV9 (a0_6_0 : Int)), (sV9 (a0_6_1 : Int))])))]))]⟩ : J.Stt)) (Sb := fun (s1 : Unit) (x3 : Int) => (⟨[(sR9 (.ref p0)), (sV9 (x3 : Int))], [(p0, (cI9 W.C_Job [(("number" : St9), (sV9 (a0_0 : Int))), (("trace" : St9), (sV9 (a0_1 : (List Int)))), (("window" : St9), (sV9 (a0_2 : Int))), (("at" : St9), (sV9 (a0_3 : Int))), (("pages_in" : St9), (sO9 (cD9 (J.dks (a0_4 : List (Int × Bool))) (J.dss (a0_4 : List (Int × Bool)))))), (("on_since" : St9), (sV9 (a0_5 : (Option Int)))), (("faults" : St9), (sO9 (cD9 [Sum.inr ("own" : St9), Sum.inr ("back" : St9)] [(sV9 (a0_6_0 : Int)), (sV9 (a0_6_1 : Int))])))]))]⟩ : J.Stt)) (s0 := ()) (own := [(("page" : St9), 1)]) (ws := [1]) (J.lcM_of hx4).2 (J.lcM_of hx4).1 hN (L2.blkOk_by (N := ["self", "page"]) (sc := defScope s_Job_working_pages) (by decide +kernel)) (J.ji_own (xs := (J.slc a0_1 (some (if (a0_3 - a0_2) > 0 then (a0_3 - a0_2) else 0)) (some a0_3))) (J.je_slcv (xs := a0_1) (J.je_fget 0 W.cl_Job W.na_Job_trace (J.je_var 0 rfl) rfl rfl) (J.jo_some (J.je_max2 W.l_max J.je_int (J.je_sub (J.je_fget 0 W.cl_Job W.na_Job_at (J.je_var 0 rfl) rfl rfl) (J.je_fget 0 W.cl_Job W.na_Job_window (J.je_var 0 rfl) rfl rfl)))) (J.jo_some (J.je_fget 0 W.cl_Job W.na_Job_at (J.je_var 0 rfl) rfl rfl)) J.lv_val)) (J.le_fgt 1 (.keep (.drop .nil)) rfl) (fun _ => trivial) (fun _ => J.any_at rfl) (by decide) (fun s1 x3 => fun s91 H91 C91 cl91 fp91 =>  J.inJG hN fun hN => (J.jg_name 1 (hN := hN))) (fun s1 x3 o sZ _ h => by
      unfold m_Job_working_pages_c0 at h
      obtain ⟨h8, h9⟩ := Prod.mk.inj (Option.some.inj h)
      subst h8
      subst h9
      exact ⟨true, _, (fun s91 H91 C91 cl91 fp91 =>  J.jts_nil), fun _ => ⟨_, _, rfl, _, (fun s91 H91 C91 cl91 fp91 =>  J.inJE hr hN fun hr hN => (J.je_var 1 rfl)), (fun s91 H91 C91 cl91 fp91 =>  J.inJE hr hN fun hr hN => J.je_bl), (J.le_fgt 1 (.keep (.drop .nil)) rfl)⟩, nofun⟩)) fun v H o => J.Out.take 1 o
structure G_Plan_let_on where
  p0 : PySem.Addr
  a0_0 : (List (Int × ((List Int) × (Int × (Int × ((List (Int × Bool)) × ((Option Int) × (Int × Int))))))))
  a0_1 : Int
  a0_2 : Int
  a0_3 : (List Int)
  a0_4 : Int
  a0_5 : (List J.Hap)
  out : ((List (Int × ((List Int) × (Int × (Int × ((List (Int × Bool)) × ((Option Int) × (Int × Int)))))))) × ((List Int) × (Int × (List J.Hap))))
abbrev R_Plan_let_on {K : PySem.W.Frag} {mg : Str → Option Value} (W : Wd K mg) (r : ((List (Int × ((List Int) × (Int × (Int × ((List (Int × Bool)) × ((Option Int) × (Int × Int)))))))) × ((List Int) × (Int × (List J.Hap))))) : J.Slot := (sR9 .non)
abbrev C_Plan_let_on {K : PySem.W.Frag} {mg : Str → Option Value} (W : Wd K mg) (p0 : PySem.Addr) (a0_0 : (List (Int × ((List Int) × (Int × (Int × ((List (Int × Bool)) × ((Option Int) × (Int × Int))))))))) (a0_1 : Int) (a0_2 : Int) (a0_3 : (List Int)) (a0_4 : Int) (a0_5 : (List J.Hap)) (r : ((List (Int × ((List Int) × (Int × (Int × ((List (Int × Bool)) × ((Option Int) × (Int × Int)))))))) × ((List Int) × (Int × (List J.Hap))))) : List (PySem.Addr × J.Cel) := [(p0, (cI9 W.C_Plan [(("jobs" : St9), (sO9 (J.mlA (Cs0 W) W.qs (r.1 : (List (Int × ((List Int) × (Int × (Int × ((List (Int × Bool)) × ((Option Int) × (Int × Int)))))))))))), (("frames_there" : St9), (sV9 (a0_1 : Int))), (("turn" : St9), (sV9 (a0_2 : Int))), (("waiting" : St9), (sO9 (cL9 ((r.2.1 : List Int).map (J.refS W.qs))))), (("lettings" : St9), (sV9 (r.2.2.1 : Int))), (("told" : St9), (sO9 (cL9 ((r.2.2.2 : List J.Hap).map sV9))))]))]
abbrev A_Plan_let_on {K : PySem.W.Frag} {mg : Str → Option Value} (W : Wd K mg) (p0 : PySem.Addr) (a0_0 : (List (Int × ((List Int) × (Int × (Int × ((List (Int × Bool)) × ((Option Int) × (Int × Int))))))))) (a0_1 : Int) (a0_2 : Int) (a0_3 : (List Int)) (a0_4 : Int) (a0_5 : (List J.Hap)) : List J.Slot := [(sR9 (.ref p0))]
abbrev D_Plan_let_on {K : PySem.W.Frag} {mg : Str → Option Value} (W : Wd K mg) (p0 : PySem.Addr) (a0_0 : (List (Int × ((List Int) × (Int × (Int × ((List (Int × Bool)) × ((Option Int) × (Int × Int))))))))) (a0_1 : Int) (a0_2 : Int) (a0_3 : (List Int)) (a0_4 : Int) (a0_5 : (List J.Hap)) : List (PySem.Addr × J.Cel) := [(p0, (cI9 W.C_Plan [(("jobs" : St9), (sO9 (J.mlA (Cs0 W) W.qs (a0_0 : (List (Int × ((List Int) × (Int × (Int × ((List (Int × Bool)) × ((Option Int) × (Int × Int)))))))))))), (("frames_there" : St9), (sV9 (a0_1 : Int))), (("turn" : St9), (sV9 (a0_2 : Int))), (("waiting" : St9), (sO9 (cL9 ((a0_3 : List Int).map (J.refS W.qs))))), (("lettings" : St9), (sV9 (a0_4 : Int))), (("told" : St9), (sO9 (cL9 ((a0_5 : List J.Hap).map sV9))))]))]
def F_Plan_let_on {K : PySem.W.Frag} {mg : Str → Option Value} (W : Wd K mg)  : J.FS G_Plan_let_on where
  pre := fun g => m_Plan_let_on g.a0_0 g.a0_1 g.a0_2 g.a0_3 g.a0_4 g.a0_5 = some g.out
  preG := fun _ _ => True
  args := fun g => A_Plan_let_on W g.p0 g.a0_0 g.a0_1 g.a0_2 g.a0_3 g.a0_4 g.a0_5
  cells := fun g => D_Plan_let_on W g.p0 g.a0_0 g.a0_1 g.a0_2 g.a0_3 g.a0_4 g.a0_5
  res := fun g => R_Plan_let_on W g.out
  cells' := fun g => C_Plan_let_on W g.p0 g.a0_0 g.a0_1 g.a0_2 g.a0_3 g.a0_4 g.a0_5 g.out
theorem ok_Plan_let_on (W : Wd K mg) : FnOk P w K mg base CX0 3 W.a_Plan_let_on W.d_Plan_let_on ["self"] (F_Plan_let_on (W)).sp := by
  refine J.fn_okD (F_Plan_let_on (W)) W.F_Plan_let_on sc_Plan_let_on (fun g => rfl) (fun g => by intro s hs; simp only [F_Plan_let_on, List.mem_cons, List.not_mem_nil, or_false] at hs; rcases hs with rfl <;> first | rfl | exact J.xsl_plain) (fun cdv A outer s H E hr B g h hG => ?_)
  have hN := (sc_Plan_let_on).nd
  obtain ⟨p0, a0_0, a0_1, a0_2, a0_3, a0_4, a0_5, r0⟩ := g
  change m_Plan_let_on a0_0 a0_1 a0_2 a0_3 a0_4 a0_5 = some r0 at h
  unfold m_Plan_let_on at h
  change J.JS _ B (⟨[(sR9 (.ref p0)), sA9, sA9, sA9], [(p0, (cI9 W.C_Plan [(("jobs" : St9), (sO9 (J.mlA (Cs0 W) W.qs (a0_0 : (List (Int × ((List Int) × (Int × (Int × ((List (Int × Bool)) × ((Option Int) × (Int × Int)))))))))))), (("frames_there" : St9), (sV9 (a0_1 : Int))), (("turn" : St9), (sV9 (a0_2 : Int))), (("waiting" : St9), (sO9 (cL9 ((a0_3 : List Int).map (J.refS W.qs))))), (("lettings" : St9), (sV9 (a0_4 : Int))), (("told" : St9), (sO9 (cL9 ((a0_5 : List J.Hap).map sV9))))]))]⟩ : J.Stt) _ (J.fend B (F_Plan_let_on (W)) ⟨p0, a0_0, a0_1, a0_2, a0_3, a0_4, a0_5, r0⟩)
  refine J.js_faug 0 L2.in_add W.cl_Plan W.na_Plan_lettings (J.je_var 0 rfl) rfl rfl J.je_int rfl ?_
  change J.JS _ _ (⟨[(sR9 (.ref p0)), sA9, sA9, sA9], [(p0, (cI9 W.C_Plan [(("jobs" : St9), (sO9 (J.mlA (Cs0 W) W.qs (a0_0 : (List (Int × ((List Int) × (Int × (Int × ((List (Int × Bool)) × ((Option Int) × (Int × Int)))))))))))), (("frames_there" : St9), (sV9 (a0_1 : Int))), (("turn" : St9), (sV9 (a0_2 : Int))), (("waiting" : St9), (sO9 (cL9 ((a0_3 : List Int).map (J.refS W.qs))))), (("lettings" : St9), (sV9 ((a0_4 + 1) : Int))), (("told" : St9), (sO9 (cL9 ((a0_5 : List J.Hap).map sV9))))]))]⟩ : J.Stt) _ _
  obtain ⟨o33, ho33, h⟩ := J.bndE h
  refine J.js_whileLE (π := Unit) (Rr := fun r => J.Out B (R_Plan_let_on W r) (C_Plan_let_on W p0 a0_0 a0_1 a0_2 a0_3 a0_4 a0_5 r)) (c := m_Plan_let_on_t1) (f := m_Plan_let_on_w2 a0_1 a0_2 a0_4) (Sf := fun (q2 : Unit) (s1 : ((List (Int × ((List Int) × (Int × (Int × ((List (Int × Bool)) × ((Option Int) × (Int × Int)))))))) × ((List Int) × (List J.Hap)))) => (⟨[(sR9 (.ref p0)), sA9, sA9, sA9], [(p0, (cI9 W.C_Plan [(("jobs" : St9), (sO9 (J.mlA (Cs0 W) W.qs (s1.1 : (List (Int × ((List Int) × (Int × (Int × ((List (Int × Bool)) × ((Option Int) × (Int × Int)))))))))))), (("frames_there" : St9), (sV9 (a0_1 : Int))), (("turn" : St9), (sV9 (a0_2 : Int))), (("waiting" : St9), (sO9 (cL9 ((s1.2.1 : List Int).map (J.refS W.qs))))), (("lettings" : St9), (sV9 ((a0_4 + 1) : Int))), (("told" : St9), (sO9 (cL9 ((s1.2.2 : List J.Hap).map sV9))))]))]⟩ : J.Stt)) ho33 (fun _ _ _ _ g => ⟨(), J.le_fgt (sl := [(sR9 (.ref p0)), sA9, sA9, sA9]) (cs := [(p0, (cI9 W.C_Plan [(("jobs" : St9), (sO9 (J.mlA (Cs0 W) W.qs ((a0_0, (a0_3, a0_5)).1 : (List (Int × ((List Int) × (Int × (Int × ((List (Int × Bool)) × ((Option Int) × (Int × Int)))))))))))), (("frames_there" : St9), (sV9 (a0_1 : Int))), (("turn" : St9), (sV9 (a0_2 : Int))), (("waiting" : St9), (sO9 (cL9 (((a0_0, (a0_3, a0_5)).2.1 : List Int).map (J.refS W.qs))))), (("lettings" : St9), (sV9 ((a0_4 + 1) : Int))), (("told" : St9), (sO9 (cL9 (((a0_0, (a0_3, a0_5)).2.2 : List J.Hap).map sV9))))]))]) 1 (.keep (.drop (.drop (.drop .nil)))) rfl _ _ _ _ g⟩) (fun q2 s1 p h => ?_) (fun q2 s1 o9 _ h => ?_) (fun r e v H hv => by subst e; cases h; exact hv) (fun s32 e q2 => ?_)
  · unfold m_Plan_let_on_t1 at h
    have h9 := Option.some.inj h
    subst h9
    exact (J.jt_open 0 3 rfl rfl fun p3 => J.jt_leS (J.jt_leS (J.jt_neNilR (ks := s1.2.1) (qs := W.qs) hr (J.je_fget 0 W.cl_Plan W.na_Plan_waiting (J.je_var 0 rfl) rfl rfl) (J.lv_refs 1 rfl)) (J.le_fold 0 1 3 rfl rfl rfl (by decide) (by nofun))) (J.le_take 1))
  · unfold m_Plan_let_on_w2 at h
    change J.JS _ _ (⟨[(sR9 (.ref p0)), sA9, sA9, sA9], [(p0, (cI9 W.C_Plan [(("jobs" : St9), (sO9 (J.mlA (Cs0 W) W.qs (s1.1 : (List (Int × ((List Int) × (Int × (Int × ((List (Int × Bool)) × ((Option Int) × (Int × Int)))))))))))), (("frames_there" : St9), (sV9 (a0_1 : Int))), (("turn" : St9), (sV9 (a0_2 : Int))), (("waiting" : St9), (sO9 (cL9 ((s1.2.1 : List Int).map (J.refS W.qs))))), (("lettings" : St9), (sV9 ((a0_4 + 1) : Int))), (("told" : St9), (sO9 (cL9 ((s1.2.2 : List J.Hap).map sV9))))]))]⟩ : J.Stt) _ _
    refine J.js_open 0 3 rfl rfl fun p4 => ?_
    change J.JS _ _ (⟨[(sR9 (.ref p0)), sA9, sA9, sA9], [(p0, (cI9 W.C_Plan [(("jobs" : St9), (sO9 (J.mlA (Cs0 W) W.qs (s1.1 : (List (Int × ((List Int) × (Int × (Int × ((List (Int × Bool)) × ((Option Int) × (Int × Int)))))))))))), (("frames_there" : St9), (sV9 (a0_1 : Int))), (("turn" : St9), (sV9 (a0_2 : Int))), (("waiting" : St9), (sR9 (.ref p4))), (("lettings" : St9), (sV9 ((a0_4 + 1) : Int))), (("told" : St9), (sO9 (cL9 ((s1.2.2 : List J.Hap).map sV9))))])), (p4, (cL9 ((s1.2.1 : List Int).map (J.refS W.qs))))]⟩ : J.Stt) _ _
    obtain ⟨x5, hx5, h⟩ := J.bndE h
    refine J.js_set (hN := hN) 1 (J.je_ixRf (ks := s1.2.1) (qs := W.qs) (J.je_fget 0 W.cl_Plan W.na_Plan_waiting (J.je_var 0 rfl) rfl rfl) J.je_int (J.lv_refs 1 rfl) hx5) ?_
    refine J.js_fold 0 1 3 1 rfl rfl rfl (by decide) (by nofun) ?_
    change J.JS _ _ (⟨[(sR9 (.ref p0)), (J.refS W.qs (x5 : Int)), sA9, sA9], [(p0, (cI9 W.C_Plan [(("jobs" : St9), (sO9 (J.mlA (Cs0 W) W.qs (s1.1 : (List (Int × ((List Int) × (Int × (Int × ((List (Int × Bool)) × ((Option Int) × (Int × Int)))))))))))), (("frames_there" : St9), (sV9 (a0_1 : Int))), (("turn" : St9), (sV9 (a0_2 : Int))), (("waiting" : St9), (sO9 (cL9 ((s1.2.1 : List Int).map (J.refS W.qs))))), (("lettings" : St9), (sV9 ((a0_4 + 1) : Int))), (("told" : St9), (sO9 (cL9 ((s1.2.2 : List J.Hap).map sV9))))]))]⟩ : J.Stt) _ _
    obtain ⟨x6, hx6, h⟩ := J.bndE h
    refine J.js_new (hN := hN) 2 (J.je_mth0 (fr := F_Plan_on_now W) 0 W.cl_Plan W.m_Plan_on_now (ok_Plan_on_now W) hr (by decide) W.b_Plan_on_now (J.je_var 0 rfl) rfl rfl (g := (⟨p0, s1.1, a0_1, a0_2, s1.2.1, (a0_4 + 1), s1.2.2, x6⟩ : G_Plan_on_now)) hx6 rfl (.cons 0 rfl (by nofun) .nil) (.cons 0 rfl .nil) (hG := fun G e => trivial)) fun p7 => ?_
    change J.JS _ _ (⟨[(sR9 (.ref p0)), (J.refS W.qs (x5 : Int)), (sR9 (.ref p7)), sA9], [(p0, (cI9 W.C_Plan [(("jobs" : St9), (sO9 (J.mlA (Cs0 W) W.qs (s1.1 : (List (Int × ((List Int) × (Int × (Int × ((List (Int × Bool)) × ((Option Int) × (Int × Int)))))))))))), (("frames_there" : St9), (sV9 (a0_1 : Int))), (("turn" : St9), (sV9 (a0_2 : Int))), (("waiting" : St9), (sO9 (cL9 ((s1.2.1 : List Int).map (J.refS W.qs))))), (("lettings" : St9), (sV9 ((a0_4 + 1) : Int))), (("told" : St9), (sO9 (cL9 ((s1.2.2 : List J.Hap).map sV9))))])), (p7, (cL9 ((x6 : List Int).map (J.refS W.qs))))]⟩ : J.Stt) _ _
    refine J.js_ifAnd (J.jt_neNilR (ks := x6) (qs := W.qs) hr (J.je_var 2 rfl) (J.lv_refs 1 rfl)) (fun hp => ?_) (fun hp => ?_)
    · replace h := J.ifT hp h
      obtain ⟨x16, hx16, h⟩ := J.bndE h
      obtain ⟨x23, hx23, h⟩ := J.bndE h
      refine ⟨_, _, (J.jt_gt (J.je_sum (xs := x23.1) W.l_sum (J.je_lcV (ei := J.refS W.qs) (f := m_Plan_let_on_c0 s1) (el := sV9) (Sf := fun (s17 : Unit) => (⟨[(sR9 (.ref p0)), (J.refS W.qs (x5 : Int)), (sR9 (.ref p7)), sA9], [(p0, (cI9 W.C_Plan [(("jobs" : St9), (sO9 (J.mlA (Cs0 W) W.qs (s1.1 : (List (Int × ((List Int) × (Int × (Int × ((List (Int × Bool)) × ((Option Int) × (Int × Int)))))))))))), (("frames_there" : St9), (sV9 (a0_1 : Int))), (("turn" : St9), (sV9 (a0_2 : Int))), (("waiting" : St9), (sO9 (cL9 ((s1.2.1 : List Int).map (J.refS W.qs))))), (("lettings" : St9), (sV9 ((a0_4 + 1) : Int))), (("told" : St9), (sO9 (cL9 ((s1.2.2 : List J.Hap).map sV9))))])), (p7, (cL9 ((x6 : List Int).map (J.refS W.qs))))]⟩ : J.Stt)) (Sb := fun (s17 : Unit) (x19 : Int) => (⟨[(sR9 (.ref p0)), (J.refS W.qs (x5 : Int)), (sR9 (.ref p7)), (J.refS W.qs (x19 : Int))], [(p0, (cI9 W.C_Plan [(("jobs" : St9), (sO9 (J.mlA (Cs0 W) W.qs (s1.1 : (List (Int × ((List Int) × (Int × (Int × ((List (Int × Bool)) × ((Option Int) × (Int × Int)))))))))))), (("frames_there" : St9), (sV9 (a0_1 : Int))), (("turn" : St9), (sV9 (a0_2 : Int))), (("waiting" : St9), (sO9 (cL9 ((s1.2.1 : List Int).map (J.refS W.qs))))), (("lettings" : St9), (sV9 ((a0_4 + 1) : Int))), (("told" : St9), (sO9 (cL9 ((s1.2.2 : List J.Hap).map sV9))))])), (p7, (cL9 ((x6 : List Int).map (J.refS W.qs))))]⟩ : J.Stt)) (s0 := ()) (own := [(("one" : St9), 3)]) (ws := [3]) (J.lcM_of hx23).2 (J.lcM_of hx23).1 hN (L2.blkOk_by (N := ["self", "job", "on", "one"]) (sc := defScope s_Plan_let_on) (by decide +kernel)) (J.ji_refs (ks := x16) (qs := W.qs) (ok := fun _ => True) (J.je_catRf (ks := x6) (js := ([x5] : List Int)) (qs := W.qs) (J.je_var 2 rfl) (J.je_lstRf (ks := ([x5] : List Int)) (qs := W.qs) (J.ja_cons (J.je_var 1 rfl) J.ja_nil)) (J.lh_cellS 1 rfl (J.refs_plain _)) (J.lh_ownS (J.refs_plain _)) hx16) J.lv_refsO (fun _ _ => J.lv_refsO)) (J.le_fgt 2 (.keep (.keep (.keep (.drop .nil)))) rfl) (fun _ => trivial) (fun _ => J.any_at rfl) (by decide) (fun s17 x19 => fun s91 H91 C91 cl91 fp91 =>  J.inJG hN fun hN => (J.jg_name 3 (hN := hN))) (fun s17 x19 o sZ _ h => by
      unfold m_Plan_let_on_c0 at h
      obtain ⟨x21, hx21, h⟩ := J.bndE h
      obtain ⟨x22, hx22, h⟩ := J.bndE h
      obtain ⟨h8, h9⟩ := Prod.mk.inj (Option.some.inj h)
      subst h8
      subst h9
      exact ⟨true, _, (fun s91 H91 C91 cl91 fp91 =>  J.jts_nil), fun _ => ⟨_, _, rfl, (fun s91 H91 C91 cl91 fp91 =>  J.inJE hr hN fun hr hN => (J.je_dlenO (m := (x22 : (List (Int × Bool)))) W.l_len (J.je_atPart 0 0 rfl rfl J.mlA_ng (fun _ => rfl) (fun _ => rfl) fun p20 => (J.je_atRf (f := Cs0 W) (xs := (s1.1 : (List (Int × ((List Int) × (Int × (Int × ((List (Int × Bool)) × ((Option Int) × (Int × Int)))))))))) (qs := W.qs) (n := x19) 2 3 hx21 rfl rfl (NGCs0 W) (J.je_mth0 (fr := F_Job_working_pages W) 3 W.cl_Job W.m_Job_working_pages (ok_Job_working_pages W) hr (by decide) W.b_Job_working_pages (J.je_var 3 rfl) rfl rfl (g := (⟨(W.qs.getD (x19).toNat 0), x21.1, x21.2.1, x21.2.2.1, x21.2.2.2.1, x21.2.2.2.2.1, x21.2.2.2.2.2.1, x21.2.2.2.2.2.2.1, x21.2.2.2.2.2.2.2, x22⟩ : G_Job_working_pages)) hx22 rfl (.cons 3 rfl (by nofun) .nil) (.cons 3 rfl .nil) (hG := fun G e => trivial)))))), (J.le_fgt 2 (.keep (.keep (.keep (.drop .nil)))) rfl)⟩, nofun⟩)) J.lv_own') (J.je_sub (J.je_fget 0 W.cl_Plan W.na_Plan_frames_there (J.je_var 0 rfl) rfl rfl) J.je_int)), fun hp => ?_, fun hp => ?_⟩
      · replace h := J.ifT hp h
        change J.JS _ _ (⟨[(sR9 (.ref p0)), (J.refS W.qs (x5 : Int)), (sR9 (.ref p7)), sA9], [(p0, (cI9 W.C_Plan [(("jobs" : St9), (sO9 (J.mlA (Cs0 W) W.qs (s1.1 : (List (Int × ((List Int) × (Int × (Int × ((List (Int × Bool)) × ((Option Int) × (Int × Int)))))))))))), (("frames_there" : St9), (sV9 (a0_1 : Int))), (("turn" : St9), (sV9 (a0_2 : Int))), (("waiting" : St9), (sO9 (cL9 ((s1.2.1 : List Int).map (J.refS W.qs))))), (("lettings" : St9), (sV9 ((a0_4 + 1) : Int))), (("told" : St9), (sO9 (cL9 ((s1.2.2 : List J.Hap).map sV9))))])), (p7, (cL9 ((x6 : List Int).map (J.refS W.qs))))]⟩ : J.Stt) _ _
        have h9 := Option.some.inj h
        subst h9
        exact J.js_retN fun H o => ⟨_, rfl, J.Out.take 1 o⟩
      · replace h := J.ifF hp h
        change J.JS _ _ (⟨[(sR9 (.ref p0)), (J.refS W.qs (x5 : Int)), (sR9 (.ref p7)), sA9], [(p0, (cI9 W.C_Plan [(("jobs" : St9), (sO9 (J.mlA (Cs0 W) W.qs (s1.1 : (List (Int × ((List Int) × (Int × (Int × ((List (Int × Bool)) × ((Option Int) × (Int × Int)))))))))))), (("frames_there" : St9), (sV9 (a0_1 : Int))), (("turn" : St9), (sV9 (a0_2 : Int))), (("waiting" : St9), (sO9 (cL9 ((s1.2.1 : List Int).map (J.refS W.qs))))), (("lettings" : St9), (sV9 ((a0_4 + 1) : Int))), (("told" : St9), (sO9 (cL9 ((s1.2.2 : List J.Hap).map sV9))))])), (p7, (cL9 ((x6 : List Int).map (J.refS W.qs))))]⟩ : J.Stt) _ _
        refine J.js_end ?_
        change J.JS _ _ (⟨[(sR9 (.ref p0)), (J.refS W.qs (x5 : Int)), (sR9 (.ref p7)), sA9], [(p0, (cI9 W.C_Plan [(("jobs" : St9), (sO9 (J.mlA (Cs0 W) W.qs (s1.1 : (List (Int × ((List Int) × (Int × (Int × ((List (Int × Bool)) × ((Option Int) × (Int × Int)))))))))))), (("frames_there" : St9), (sV9 (a0_1 : Int))), (("turn" : St9), (sV9 (a0_2 : Int))), (("waiting" : St9), (sO9 (cL9 ((s1.2.1 : List Int).map (J.refS W.qs))))), (("lettings" : St9), (sV9 ((a0_4 + 1) : Int))), (("told" : St9), (sO9 (cL9 ((s1.2.2 : List J.Hap).map sV9))))])), (p7, (cL9 ((x6 : List Int).map (J.refS W.qs))))]⟩ : J.Stt) _ _
        refine J.js_open 0 3 rfl rfl fun p24 => ?_
        change J.JS _ _ (⟨[(sR9 (.ref p0)), (J.refS W.qs (x5 : Int)), (sR9 (.ref p7)), sA9], [(p0, (cI9 W.C_Plan [(("jobs" : St9), (sO9 (J.mlA (Cs0 W) W.qs (s1.1 : (List (Int × ((List Int) × (Int × (Int × ((List (Int × Bool)) × ((Option Int) × (Int × Int)))))))))))), (("frames_there" : St9), (sV9 (a0_1 : Int))), (("turn" : St9), (sV9 (a0_2 : Int))), (("waiting" : St9), (sR9 (.ref p24))), (("lettings" : St9), (sV9 ((a0_4 + 1) : Int))), (("told" : St9), (sO9 (cL9 ((s1.2.2 : List J.Hap).map sV9))))])), (p7, (cL9 ((x6 : List Int).map (J.refS W.qs)))), (p24, (cL9 ((s1.2.1 : List Int).map (J.refS W.qs))))]⟩ : J.Stt) _ _
        obtain ⟨x25, hx25, h⟩ := J.bndE h
        refine J.js_expr (J.je_popR (ks := s1.2.1) (qs := W.qs) 2 (J.je_fget 0 W.cl_Plan W.na_Plan_waiting (J.je_var 0 rfl) rfl rfl) rfl J.je_int rfl hx25) ?_
        refine J.js_fold 0 2 3 2 rfl rfl rfl (by decide) (by nofun) ?_
        change J.JS _ _ (⟨[(sR9 (.ref p0)), (J.refS W.qs (x5 : Int)), (sR9 (.ref p7)), sA9], [(p0, (cI9 W.C_Plan [(("jobs" : St9), (sO9 (J.mlA (Cs0 W) W.qs (s1.1 : (List (Int × ((List Int) × (Int × (Int × ((List (Int × Bool)) × ((Option Int) × (Int × Int)))))))))))), (("frames_there" : St9), (sV9 (a0_1 : Int))), (("turn" : St9), (sV9 (a0_2 : Int))), (("waiting" : St9), (sO9 (cL9 ((x25.2 : List Int).map (J.refS W.qs))))), (("lettings" : St9), (sV9 ((a0_4 + 1) : Int))), (("told" : St9), (sO9 (cL9 ((s1.2.2 : List J.Hap).map sV9))))])), (p7, (cL9 ((x6 : List Int).map (J.refS W.qs))))]⟩ : J.Stt) _ _
        refine J.js_open 0 0 rfl rfl fun p26 => ?_
        change J.JS _ _ (⟨[(sR9 (.ref p0)), (J.refS W.qs (x5 : Int)), (sR9 (.ref p7)), sA9], [(p0, (cI9 W.C_Plan [(("jobs" : St9), (sR9 (.ref p26))), (("frames_there" : St9), (sV9 (a0_1 : Int))), (("turn" : St9), (sV9 (a0_2 : Int))), (("waiting" : St9), (sO9 (cL9 ((x25.2 : List Int).map (J.refS W.qs))))), (("lettings" : St9), (sV9 ((a0_4 + 1) : Int))), (("told" : St9), (sO9 (cL9 ((s1.2.2 : List J.Hap).map sV9))))])), (p7, (cL9 ((x6 : List Int).map (J.refS W.qs)))), (p26, (J.mlA (Cs0 W) W.qs (s1.1 : (List (Int × ((List Int) × (Int × (Int × ((List (Int × Bool)) × ((Option Int) × (Int × Int)))))))))))]⟩ : J.Stt) _ _
        obtain ⟨x27, hx27, h⟩ := J.bndE h
        have gx27 := J.gxN_of hx27
        refine J.js_le (J.le_openRf (f := Cs0 W) (xs := (s1.1 : (List (Int × ((List Int) × (Int × (Int × ((List (Int × Bool)) × ((Option Int) × (Int × Int)))))))))) (qs := W.qs) (n := x5) 2 gx27.1 gx27.2 rfl) ?_
        change J.JS _ _ (⟨[(sR9 (.ref p0)), (sR9 (.ref (W.qs.getD (x5).toNat 0))), (sR9 (.ref p7)), sA9], [(p0, (cI9 W.C_Plan [(("jobs" : St9), (sR9 (.ref p26))), (("frames_there" : St9), (sV9 (a0_1 : Int))), (("turn" : St9), (sV9 (a0_2 : Int))), (("waiting" : St9), (sO9 (cL9 ((x25.2 : List Int).map (J.refS W.qs))))), (("lettings" : St9), (sV9 ((a0_4 + 1) : Int))), (("told" : St9), (sO9 (cL9 ((s1.2.2 : List J.Hap).map sV9))))])), (p7, (cL9 ((x6 : List Int).map (J.refS W.qs)))), (p26, (J.mlAH (Cs0 W) W.qs (s1.1 : (List (Int × ((List Int) × (Int × (Int × ((List (Int × Bool)) × ((Option Int) × (Int × Int))))))))) (x5).toNat (W.qs.getD (x5).toNat 0))), ((W.qs.getD (x5).toNat 0), (cI9 W.C_Job [(("number" : St9), (sV9 (x27.1 : Int))), (("trace" : St9), (sV9 (x27.2.1 : (List Int)))), (("window" : St9), (sV9 (x27.2.2.1 : Int))), (("at" : St9), (sV9 (x27.2.2.2.1 : Int))), (("pages_in" : St9), (sO9 (cD9 (J.dks (x27.2.2.2.2.1 : List (Int × Bool))) (J.dss (x27.2.2.2.2.1 : List (Int × Bool)))))), (("on_since" : St9), (sV9 (x27.2.2.2.2.2.1 : (Option Int)))), (("faults" : St9), (sO9 (cD9 [Sum.inr ("own" : St9), Sum.inr ("back" : St9)] [(sV9 (x27.2.2.2.2.2.2.1 : Int)), (sV9 (x27.2.2.2.2.2.2.2 : Int))])))]))]⟩ : J.Stt) _ _
        refine J.js_fputA 3 W.cl_Job W.na_Job_on_since (J.je_some (J.je_fget 0 W.cl_Plan W.na_Plan_lettings (J.je_var 0 rfl) rfl rfl)) (J.je_var 1 rfl) rfl ?_
        change J.JS _ _ (⟨[(sR9 (.ref p0)), (sR9 (.ref (W.qs.getD (x5).toNat 0))), (sR9 (.ref p7)), sA9], [(p0, (cI9 W.C_Plan [(("jobs" : St9), (sR9 (.ref p26))), (("frames_there" : St9), (sV9 (a0_1 : Int))), (("turn" : St9), (sV9 (a0_2 : Int))), (("waiting" : St9), (sO9 (cL9 ((x25.2 : List Int).map (J.refS W.qs))))), (("lettings" : St9), (sV9 ((a0_4 + 1) : Int))), (("told" : St9), (sO9 (cL9 ((s1.2.2 : List J.Hap).map sV9))))])), (p7, (cL9 ((x6 : List Int).map (J.refS W.qs)))), (p26, (J.mlAH (Cs0 W) W.qs (s1.1 : (List (Int × ((List Int) × (Int × (Int × ((List (Int × Bool)) × ((Option Int) × (Int × Int))))))))) (x5).toNat (W.qs.getD (x5).toNat 0))), ((W.qs.getD (x5).toNat 0), (cI9 W.C_Job [(("number" : St9), (sV9 (x27.1 : Int))), (("trace" : St9), (sV9 (x27.2.1 : (List Int)))), (("window" : St9), (sV9 (x27.2.2.1 : Int))), (("at" : St9), (sV9 (x27.2.2.2.1 : Int))), (("pages_in" : St9), (sO9 (cD9 (J.dks (x27.2.2.2.2.1 : List (Int × Bool))) (J.dss (x27.2.2.2.2.1 : List (Int × Bool)))))), (("on_since" : St9), (sV9 ((some (a0_4 + 1)) : (Option Int)))), (("faults" : St9), (sO9 (cD9 [Sum.inr ("own" : St9), Sum.inr ("back" : St9)] [(sV9 (x27.2.2.2.2.2.2.1 : Int)), (sV9 (x27.2.2.2.2.2.2.2 : Int))])))]))]⟩ : J.Stt) _ _
        refine J.js_le (J.le_closeRf (f := Cs0 W) (xs := (s1.1 : (List (Int × ((List Int) × (Int × (Int × ((List (Int × Bool)) × ((Option Int) × (Int × Int)))))))))) (qs := W.qs) (n := x5) (x := ((x27.1, (x27.2.1, (x27.2.2.1, (x27.2.2.2.1, (x27.2.2.2.2.1, ((some (a0_4 + 1)), (x27.2.2.2.2.2.2.1, x27.2.2.2.2.2.2.2))))))) : (Int × ((List Int) × (Int × (Int × ((List (Int × Bool)) × ((Option Int) × (Int × Int))))))))) 2 3 3 gx27.1 gx27.2 rfl rfl (by decide) (NGCs0 W)) ?_
        change J.JS _ _ (⟨[(sR9 (.ref p0)), (J.refS W.qs (x5 : Int)), (sR9 (.ref p7)), sA9], [(p0, (cI9 W.C_Plan [(("jobs" : St9), (sR9 (.ref p26))), (("frames_there" : St9), (sV9 (a0_1 : Int))), (("turn" : St9), (sV9 (a0_2 : Int))), (("waiting" : St9), (sO9 (cL9 ((x25.2 : List Int).map (J.refS W.qs))))), (("lettings" : St9), (sV9 ((a0_4 + 1) : Int))), (("told" : St9), (sO9 (cL9 ((s1.2.2 : List J.Hap).map sV9))))])), (p7, (cL9 ((x6 : List Int).map (J.refS W.qs)))), (p26, (J.mlA (Cs0 W) W.qs ((List.set s1.1 (x5).toNat ((x27.1, (x27.2.1, (x27.2.2.1, (x27.2.2.2.1, (x27.2.2.2.2.1, ((some (a0_4 + 1)), (x27.2.2.2.2.2.2.1, x27.2.2.2.2.2.2.2))))))) : (Int × ((List Int) × (Int × (Int × ((List (Int × Bool)) × ((Option Int) × (Int × Int))))))))) : (List (Int × ((List Int) × (Int × (Int × ((List (Int × Bool)) × ((Option Int) × (Int × Int)))))))))))]⟩ : J.Stt) _ _
        refine J.js_fold 0 2 0 2 rfl rfl rfl (by decide) J.mlA_ng ?_
        change J.JS _ _ (⟨[(sR9 (.ref p0)), (J.refS W.qs (x5 : Int)), (sR9 (.ref p7)), sA9], [(p0, (cI9 W.C_Plan [(("jobs" : St9), (sO9 (J.mlA (Cs0 W) W.qs ((List.set s1.1 (x5).toNat ((x27.1, (x27.2.1, (x27.2.2.1, (x27.2.2.2.1, (x27.2.2.2.2.1, ((some (a0_4 + 1)), (x27.2.2.2.2.2.2.1, x27.2.2.2.2.2.2.2))))))) : (Int × ((List Int) × (Int × (Int × ((List (Int × Bool)) × ((Option Int) × (Int × Int))))))))) : (List (Int × ((List Int) × (Int × (Int × ((List (Int × Bool)) × ((Option Int) × (Int × Int)))))))))))), (("frames_there" : St9), (sV9 (a0_1 : Int))), (("turn" : St9), (sV9 (a0_2 : Int))), (("waiting" : St9), (sO9 (cL9 ((x25.2 : List Int).map (J.refS W.qs))))), (("lettings" : St9), (sV9 ((a0_4 + 1) : Int))), (("told" : St9), (sO9 (cL9 ((s1.2.2 : List J.Hap).map sV9))))])), (p7, (cL9 ((x6 : List Int).map (J.refS W.qs))))]⟩ : J.Stt) _ _
        refine J.js_open 0 5 rfl rfl fun p28 => ?_
        change J.JS _ _ (⟨[(sR9 (.ref p0)), (J.refS W.qs (x5 : Int)), (sR9 (.ref p7)), sA9], [(p0, (cI9 W.C_Plan [(("jobs" : St9), (sO9 (J.mlA (Cs0 W) W.qs ((List.set s1.1 (x5).toNat ((x27.1, (x27.2.1, (x27.2.2.1, (x27.2.2.2.1, (x27.2.2.2.2.1, ((some (a0_4 + 1)), (x27.2.2.2.2.2.2.1, x27.2.2.2.2.2.2.2))))))) : (Int × ((List Int) × (Int × (Int × ((List (Int × Bool)) × ((Option Int) × (Int × Int))))))))) : (List (Int × ((List Int) × (Int × (Int × ((List (Int × Bool)) × ((Option Int) × (Int × Int)))))))))))), (("frames_there" : St9), (sV9 (a0_1 : Int))), (("turn" : St9), (sV9 (a0_2 : Int))), (("waiting" : St9), (sO9 (cL9 ((x25.2 : List Int).map (J.refS W.qs))))), (("lettings" : St9), (sV9 ((a0_4 + 1) : Int))), (("told" : St9), (sR9 (.ref p28)))])), (p7, (cL9 ((x6 : List Int).map (J.refS W.qs)))), (p28, (cL9 ((s1.2.2 : List J.Hap).map sV9)))]⟩ : J.Stt) _ _
        obtain ⟨x30, hx30, h⟩ := J.bndE h
        obtain ⟨x31, hx31, h⟩ := J.bndE h
        refine J.js_expr (J.je_appG (xs := s1.2.2) (t := ((J.Hap.two ((("on" : St9), x30.1) : (St9 × Int)).1 ((("on" : St9), x30.1) : (St9 × Int)).2) : J.Hap)) 2 (J.je_fget 0 W.cl_Plan W.na_Plan_told (J.je_var 0 rfl) rfl rfl) rfl (J.je_same (t := ((("on" : St9), x30.1) : (St9 × Int))) (r := (J.Hap.two ((("on" : St9), x30.1) : (St9 × Int)).1 ((("on" : St9), x30.1) : (St9 × Int)).2)) (J.je_tup (t := ((("on" : St9), x30.1) : (St9 × Int))) (J.ja_cons J.je_str (J.ja_cons (J.je_atPart 0 0 rfl rfl J.mlA_ng (fun _ => rfl) (fun _ => rfl) fun p29 => (J.je_atRf (f := Cs0 W) (xs := ((List.set s1.1 (x5).toNat ((x27.1, (x27.2.1, (x27.2.2.1, (x27.2.2.2.1, (x27.2.2.2.2.1, ((some (a0_4 + 1)), (x27.2.2.2.2.2.2.1, x27.2.2.2.2.2.2.2))))))) : (Int × ((List Int) × (Int × (Int × ((List (Int × Bool)) × ((Option Int) × (Int × Int))))))))) : (List (Int × ((List Int) × (Int × (Int × ((List (Int × Bool)) × ((Option Int) × (Int × Int)))))))))) (qs := W.qs) (n := x5) 3 4 hx30 rfl rfl (NGCs0 W) (J.je_fget 4 W.cl_Job W.na_Job_number (J.je_var 1 rfl) rfl rfl))) J.ja_nil)) (J.SlDs.cons J.sld_val (J.SlDs.cons J.sld_val J.SlDs.nil)) rfl (Nat.le_of_ble_eq_true rfl))) rfl hx31) ?_
        refine J.js_fold 0 2 5 2 rfl rfl rfl (by decide) (by nofun) ?_
        change J.JS _ _ (⟨[(sR9 (.ref p0)), (J.refS W.qs (x5 : Int)), (sR9 (.ref p7)), sA9], [(p0, (cI9 W.C_Plan [(("jobs" : St9), (sO9 (J.mlA (Cs0 W) W.qs ((List.set s1.1 (x5).toNat ((x27.1, (x27.2.1, (x27.2.2.1, (x27.2.2.2.1, (x27.2.2.2.2.1, ((some (a0_4 + 1)), (x27.2.2.2.2.2.2.1, x27.2.2.2.2.2.2.2))))))) : (Int × ((List Int) × (Int × (Int × ((List (Int × Bool)) × ((Option Int) × (Int × Int))))))))) : (List (Int × ((List Int) × (Int × (Int × ((List (Int × Bool)) × ((Option Int) × (Int × Int)))))))))))), (("frames_there" : St9), (sV9 (a0_1 : Int))), (("turn" : St9), (sV9 (a0_2 : Int))), (("waiting" : St9), (sO9 (cL9 ((x25.2 : List Int).map (J.refS W.qs))))), (("lettings" : St9), (sV9 ((a0_4 + 1) : Int))), (("told" : St9), (sO9 (cL9 ((x31 : List J.Hap).map sV9))))])), (p7, (cL9 ((x6 : List Int).map (J.refS W.qs))))]⟩ : J.Stt) _ _
        have h9 := Option.some.inj h
        subst h9
        exact J.js_nil fun T tv σ H g => ⟨_, rfl, (), J.le_fgt (sl := [(sR9 (.ref p0)), sA9, sA9, sA9]) (cs := [(p0, (cI9 W.C_Plan [(("jobs" : St9), (sO9 (J.mlA (Cs0 W) W.qs (((List.set s1.1 (x5).toNat ((x27.1, (x27.2.1, (x27.2.2.1, (x27.2.2.2.1, (x27.2.2.2.2.1, ((some (a0_4 + 1)), (x27.2.2.2.2.2.2.1, x27.2.2.2.2.2.2.2))))))) : (Int × ((List Int) × (Int × (Int × ((List (Int × Bool)) × ((Option Int) × (Int × Int))))))))), (x25.2, x31)).1 : (List (Int × ((List Int) × (Int × (Int × ((List (Int × Bool)) × ((Option Int) × (Int × Int)))))))))))), (("frames_there" : St9), (sV9 (a0_1 : Int))), (("turn" : St9), (sV9 (a0_2 : Int))), (("waiting" : St9), (sO9 (cL9 ((((List.set s1.1 (x5).toNat ((x27.1, (x27.2.1, (x27.2.2.1, (x27.2.2.2.1, (x27.2.2.2.2.1, ((some (a0_4 + 1)), (x27.2.2.2.2.2.2.1, x27.2.2.2.2.2.2.2))))))) : (Int × ((List Int) × (Int × (Int × ((List (Int × Bool)) × ((Option Int) × (Int × Int))))))))), (x25.2, x31)).2.1 : List Int).map (J.refS W.qs))))), (("lettings" : St9), (sV9 ((a0_4 + 1) : Int))), (("told" : St9), (sO9 (cL9 ((((List.set s1.1 (x5).toNat ((x27.1, (x27.2.1, (x27.2.2.1, (x27.2.2.2.1, (x27.2.2.2.2.1, ((some (a0_4 + 1)), (x27.2.2.2.2.2.2.1, x27.2.2.2.2.2.2.2))))))) : (Int × ((List Int) × (Int × (Int × ((List (Int × Bool)) × ((Option Int) × (Int × Int))))))))), (x25.2, x31)).2.2 : List J.Hap).map sV9))))]))]) 1 (.keep (.drop (.drop (.drop .nil)))) rfl _ _ _ _ g⟩
    · replace h := J.ifF hp h
      refine J.js_end ?_
      change J.JS _ _ (⟨[(sR9 (.ref p0)), (J.refS W.qs (x5 : Int)), (sR9 (.ref p7)), sA9], [(p0, (cI9 W.C_Plan [(("jobs" : St9), (sO9 (J.mlA (Cs0 W) W.qs (s1.1 : (List (Int × ((List Int) × (Int × (Int × ((List (Int × Bool)) × ((Option Int) × (Int × Int)))))))))))), (("frames_there" : St9), (sV9 (a0_1 : Int))), (("turn" : St9), (sV9 (a0_2 : Int))), (("waiting" : St9), (sO9 (cL9 ((s1.2.1 : List Int).map (J.refS W.qs))))), (("lettings" : St9), (sV9 ((a0_4 + 1) : Int))), (("told" : St9), (sO9 (cL9 ((s1.2.2 : List J.Hap).map sV9))))])), (p7, (cL9 ((x6 : List Int).map (J.refS W.qs))))]⟩ : J.Stt) _ _
      refine J.js_open 0 3 rfl rfl fun p8 => ?_
      change J.JS _ _ (⟨[(sR9 (.ref p0)), (J.refS W.qs (x5 : Int)), (sR9 (.ref p7)), sA9], [(p0, (cI9 W.C_Plan [(("jobs" : St9), (sO9 (J.mlA (Cs0 W) W.qs (s1.1 : (List (Int × ((List Int) × (Int × (Int × ((List (Int × Bool)) × ((Option Int) × (Int × Int)))))))))))), (("frames_there" : St9), (sV9 (a0_1 : Int))), (("turn" : St9), (sV9 (a0_2 : Int))), (("waiting" : St9), (sR9 (.ref p8))), (("lettings" : St9), (sV9 ((a0_4 + 1) : Int))), (("told" : St9), (sO9 (cL9 ((s1.2.2 : List J.Hap).map sV9))))])), (p7, (cL9 ((x6 : List Int).map (J.refS W.qs)))), (p8, (cL9 ((s1.2.1 : List Int).map (J.refS W.qs))))]⟩ : J.Stt) _ _
      obtain ⟨x9, hx9, h⟩ := J.bndE h
      refine J.js_expr (J.je_popR (ks := s1.2.1) (qs := W.qs) 2 (J.je_fget 0 W.cl_Plan W.na_Plan_waiting (J.je_var 0 rfl) rfl rfl) rfl J.je_int rfl hx9) ?_
      refine J.js_fold 0 2 3 2 rfl rfl rfl (by decide) (by nofun) ?_
      change J.JS _ _ (⟨[(sR9 (.ref p0)), (J.refS W.qs (x5 : Int)), (sR9 (.ref p7)), sA9], [(p0, (cI9 W.C_Plan [(("jobs" : St9), (sO9 (J.mlA (Cs0 W) W.qs (s1.1 : (List (Int × ((List Int) × (Int × (Int × ((List (Int × Bool)) × ((Option Int) × (Int × Int)))))))))))), (("frames_there" : St9), (sV9 (a0_1 : Int))), (("turn" : St9), (sV9 (a0_2 : Int))), (("waiting" : St9), (sO9 (cL9 ((x9.2 : List Int).map (J.refS W.qs))))), (("lettings" : St9), (sV9 ((a0_4 + 1) : Int))), (("told" : St9), (sO9 (cL9 ((s1.2.2 : List J.Hap).map sV9))))])), (p7, (cL9 ((x6 : List Int).map (J.refS W.qs))))]⟩ : J.Stt) _ _
      refine J.js_open 0 0 rfl rfl fun p10 => ?_
      change J.JS _ _ (⟨[(sR9 (.ref p0)), (J.refS W.qs (x5 : Int)), (sR9 (.ref p7)), sA9], [(p0, (cI9 W.C_Plan [(("jobs" : St9), (sR9 (.ref p10))), (("frames_there" : St9), (sV9 (a0_1 : Int))), (("turn" : St9), (sV9 (a0_2 : Int))), (("waiting" : St9), (sO9 (cL9 ((x9.2 : List Int).map (J.refS W.qs))))), (("lettings" : St9), (sV9 ((a0_4 + 1) : Int))), (("told" : St9), (sO9 (cL9 ((s1.2.2 : List J.Hap).map sV9))))])), (p7, (cL9 ((x6 : List Int).map (J.refS W.qs)))), (p10, (J.mlA (Cs0 W) W.qs (s1.1 : (List (Int × ((List Int) × (Int × (Int × ((List (Int × Bool)) × ((Option Int) × (Int × Int)))))))))))]⟩ : J.Stt) _ _
      obtain ⟨x11, hx11, h⟩ := J.bndE h
      have gx11 := J.gxN_of hx11
      refine J.js_le (J.le_openRf (f := Cs0 W) (xs := (s1.1 : (List (Int × ((List Int) × (Int × (Int × ((List (Int × Bool)) × ((Option Int) × (Int × Int)))))))))) (qs := W.qs) (n := x5) 2 gx11.1 gx11.2 rfl) ?_
      change J.JS _ _ (⟨[(sR9 (.ref p0)), (sR9 (.ref (W.qs.getD (x5).toNat 0))), (sR9 (.ref p7)), sA9], [(p0, (cI9 W.C_Plan [(("jobs" : St9), (sR9 (.ref p10))), (("frames_there" : St9), (sV9 (a0_1 : Int))), (("turn" : St9), (sV9 (a0_2 : Int))), (("waiting" : St9), (sO9 (cL9 ((x9.2 : List Int).map (J.refS W.qs))))), (("lettings" : St9), (sV9 ((a0_4 + 1) : Int))), (("told" : St9), (sO9 (cL9 ((s1.2.2 : List J.Hap).map sV9))))])), (p7, (cL9 ((x6 : List Int).map (J.refS W.qs)))), (p10, (J.mlAH (Cs0 W) W.qs (s1.1 : (List (Int × ((List Int) × (Int × (Int × ((List (Int × Bool)) × ((Option Int) × (Int × Int))))))))) (x5).toNat (W.qs.getD (x5).toNat 0))), ((W.qs.getD (x5).toNat 0), (cI9 W.C_Job [(("number" : St9), (sV9 (x11.1 : Int))), (("trace" : St9), (sV9 (x11.2.1 : (List Int)))), (("window" : St9), (sV9 (x11.2.2.1 : Int))), (("at" : St9), (sV9 (x11.2.2.2.1 : Int))), (("pages_in" : St9), (sO9 (cD9 (J.dks (x11.2.2.2.2.1 : List (Int × Bool))) (J.dss (x11.2.2.2.2.1 : List (Int × Bool)))))), (("on_since" : St9), (sV9 (x11.2.2.2.2.2.1 : (Option Int)))), (("faults" : St9), (sO9 (cD9 [Sum.inr ("own" : St9), Sum.inr ("back" : St9)] [(sV9 (x11.2.2.2.2.2.2.1 : Int)), (sV9 (x11.2.2.2.2.2.2.2 : Int))])))]))]⟩ : J.Stt) _ _
      refine J.js_fputA 3 W.cl_Job W.na_Job_on_since (J.je_some (J.je_fget 0 W.cl_Plan W.na_Plan_lettings (J.je_var 0 rfl) rfl rfl)) (J.je_var 1 rfl) rfl ?_
      change J.JS _ _ (⟨[(sR9 (.ref p0)), (sR9 (.ref (W.qs.getD (x5).toNat 0))), (sR9 (.ref p7)), sA9], [(p0, (cI9 W.C_Plan [(("jobs" : St9), (sR9 (.ref p10))), (("frames_there" : St9), (sV9 (a0_1 : Int))), (("turn" : St9), (sV9 (a0_2 : Int))), (("waiting" : St9), (sO9 (cL9 ((x9.2 : List Int).map (J.refS W.qs))))), (("lettings" : St9), (sV9 ((a0_4 + 1) : Int))), (("told" : St9), (sO9 (cL9 ((s1.2.2 : List J.Hap).map sV9))))])), (p7, (cL9 ((x6 : List Int).map (J.refS W.qs)))), (p10, (J.mlAH (Cs0 W) W.qs (s1.1 : (List (Int × ((List Int) × (Int × (Int × ((List (Int × Bool)) × ((Option Int) × (Int × Int))))))))) (x5).toNat (W.qs.getD (x5).toNat 0))), ((W.qs.getD (x5).toNat 0), (cI9 W.C_Job [(("number" : St9), (sV9 (x11.1 : Int))), (("trace" : St9), (sV9 (x11.2.1 : (List Int)))), (("window" : St9), (sV9 (x11.2.2.1 : Int))), (("at" : St9), (sV9 (x11.2.2.2.1 : Int))), (("pages_in" : St9), (sO9 (cD9 (J.dks (x11.2.2.2.2.1 : List (Int × Bool))) (J.dss (x11.2.2.2.2.1 : List (Int × Bool)))))), (("on_since" : St9), (sV9 ((some (a0_4 + 1)) : (Option Int)))), (("faults" : St9), (sO9 (cD9 [Sum.inr ("own" : St9), Sum.inr ("back" : St9)] [(sV9 (x11.2.2.2.2.2.2.1 : Int)), (sV9 (x11.2.2.2.2.2.2.2 : Int))])))]))]⟩ : J.Stt) _ _
      refine J.js_le (J.le_closeRf (f := Cs0 W) (xs := (s1.1 : (List (Int × ((List Int) × (Int × (Int × ((List (Int × Bool)) × ((Option Int) × (Int × Int)))))))))) (qs := W.qs) (n := x5) (x := ((x11.1, (x11.2.1, (x11.2.2.1, (x11.2.2.2.1, (x11.2.2.2.2.1, ((some (a0_4 + 1)), (x11.2.2.2.2.2.2.1, x11.2.2.2.2.2.2.2))))))) : (Int × ((List Int) × (Int × (Int × ((List (Int × Bool)) × ((Option Int) × (Int × Int))))))))) 2 3 3 gx11.1 gx11.2 rfl rfl (by decide) (NGCs0 W)) ?_
      change J.JS _ _ (⟨[(sR9 (.ref p0)), (J.refS W.qs (x5 : Int)), (sR9 (.ref p7)), sA9], [(p0, (cI9 W.C_Plan [(("jobs" : St9), (sR9 (.ref p10))), (("frames_there" : St9), (sV9 (a0_1 : Int))), (("turn" : St9), (sV9 (a0_2 : Int))), (("waiting" : St9), (sO9 (cL9 ((x9.2 : List Int).map (J.refS W.qs))))), (("lettings" : St9), (sV9 ((a0_4 + 1) : Int))), (("told" : St9), (sO9 (cL9 ((s1.2.2 : List J.Hap).map sV9))))])), (p7, (cL9 ((x6 : List Int).map (J.refS W.qs)))), (p10, (J.mlA (Cs0 W) W.qs ((List.set s1.1 (x5).toNat ((x11.1, (x11.2.1, (x11.2.2.1, (x11.2.2.2.1, (x11.2.2.2.2.1, ((some (a0_4 + 1)), (x11.2.2.2.2.2.2.1, x11.2.2.2.2.2.2.2))))))) : (Int × ((List Int) × (Int × (Int × ((List (Int × Bool)) × ((Option Int) × (Int × Int))))))))) : (List (Int × ((List Int) × (Int × (Int × ((List (Int × Bool)) × ((Option Int) × (Int × Int)))))))))))]⟩ : J.Stt) _ _
      refine J.js_fold 0 2 0 2 rfl rfl rfl (by decide) J.mlA_ng ?_
      change J.JS _ _ (⟨[(sR9 (.ref p0)), (J.refS W.qs (x5 : Int)), (sR9 (.ref p7)), sA9], [(p0, (cI9 W.C_Plan [(("jobs" : St9), (sO9 (J.mlA (Cs0 W) W.qs ((List.set s1.1 (x5).toNat ((x11.1, (x11.2.1, (x11.2.2.1, (x11.2.2.2.1, (x11.2.2.2.2.1, ((some (a0_4 + 1)), (x11.2.2.2.2.2.2.1, x11.2.2.2.2.2.2.2))))))) : (Int × ((List Int) × (Int × (Int × ((List (Int × Bool)) × ((Option Int) × (Int × Int))))))))) : (List (Int × ((List Int) × (Int × (Int × ((List (Int × Bool)) × ((Option Int) × (Int × Int)))))))))))), (("frames_there" : St9), (sV9 (a0_1 : Int))), (("turn" : St9), (sV9 (a0_2 : Int))), (("waiting" : St9), (sO9 (cL9 ((x9.2 : List Int).map (J.refS W.qs))))), (("lettings" : St9), (sV9 ((a0_4 + 1) : Int))), (("told" : St9), (sO9 (cL9 ((s1.2.2 : List J.Hap).map sV9))))])), (p7, (cL9 ((x6 : List Int).map (J.refS W.qs))))]⟩ : J.Stt) _ _
      refine J.js_open 0 5 rfl rfl fun p12 => ?_
      change J.JS _ _ (⟨[(sR9 (.ref p0)), (J.refS W.qs (x5 : Int)), (sR9 (.ref p7)), sA9], [(p0, (cI9 W.C_Plan [(("jobs" : St9), (sO9 (J.mlA (Cs0 W) W.qs ((List.set s1.1 (x5).toNat ((x11.1, (x11.2.1, (x11.2.2.1, (x11.2.2.2.1, (x11.2.2.2.2.1, ((some (a0_4 + 1)), (x11.2.2.2.2.2.2.1, x11.2.2.2.2.2.2.2))))))) : (Int × ((List Int) × (Int × (Int × ((List (Int × Bool)) × ((Option Int) × (Int × Int))))))))) : (List (Int × ((List Int) × (Int × (Int × ((List (Int × Bool)) × ((Option Int) × (Int × Int)))))))))))), (("frames_there" : St9), (sV9 (a0_1 : Int))), (("turn" : St9), (sV9 (a0_2 : Int))), (("waiting" : St9), (sO9 (cL9 ((x9.2 : List Int).map (J.refS W.qs))))), (("lettings" : St9), (sV9 ((a0_4 + 1) : Int))), (("told" : St9), (sR9 (.ref p12)))])), (p7, (cL9 ((x6 : List Int).map (J.refS W.qs)))), (p12, (cL9 ((s1.2.2 : List J.Hap).map sV9)))]⟩ : J.Stt) _ _
      obtain ⟨x14, hx14, h⟩ := J.bndE h
      obtain ⟨x15, hx15, h⟩ := J.bndE h
      refine J.js_expr (J.je_appG (xs := s1.2.2) (t := ((J.Hap.two ((("on" : St9), x14.1) : (St9 × Int)).1 ((("on" : St9), x14.1) : (St9 × Int)).2) : J.Hap)) 2 (J.je_fget 0 W.cl_Plan W.na_Plan_told (J.je_var 0 rfl) rfl rfl) rfl (J.je_same (t := ((("on" : St9), x14.1) : (St9 × Int))) (r := (J.Hap.two ((("on" : St9), x14.1) : (St9 × Int)).1 ((("on" : St9), x14.1) : (St9 × Int)).2)) (J.je_tup (t := ((("on" : St9), x14.1) : (St9 × Int))) (J.ja_cons J.je_str (J.ja_cons (J.je_atPart 0 0 rfl rfl J.mlA_ng (fun _ => rfl) (fun _ => rfl) fun p13 => (J.je_atRf (f := Cs0 W) (xs := ((List.set s1.1 (x5).toNat ((x11.1, (x11.2.1, (x11.2.2.1, (x11.2.2.2.1, (x11.2.2.2.2.1, ((some (a0_4 + 1)), (x11.2.2.2.2.2.2.1, x11.2.2.2.2.2.2.2))))))) : (Int × ((List Int) × (Int × (Int × ((List (Int × Bool)) × ((Option Int) × (Int × Int))))))))) : (List (Int × ((List Int) × (Int × (Int × ((List (Int × Bool)) × ((Option Int) × (Int × Int)))))))))) (qs := W.qs) (n := x5) 3 4 hx14 rfl rfl (NGCs0 W) (J.je_fget 4 W.cl_Job W.na_Job_number (J.je_var 1 rfl) rfl rfl))) J.ja_nil)) (J.SlDs.cons J.sld_val (J.SlDs.cons J.sld_val J.SlDs.nil)) rfl (Nat.le_of_ble_eq_true rfl))) rfl hx15) ?_
      refine J.js_fold 0 2 5 2 rfl rfl rfl (by decide) (by nofun) ?_
      change J.JS _ _ (⟨[(sR9 (.ref p0)), (J.refS W.qs (x5 : Int)), (sR9 (.ref p7)), sA9], [(p0, (cI9 W.C_Plan [(("jobs" : St9), (sO9 (J.mlA (Cs0 W) W.qs ((List.set s1.1 (x5).toNat ((x11.1, (x11.2.1, (x11.2.2.1, (x11.2.2.2.1, (x11.2.2.2.2.1, ((some (a0_4 + 1)), (x11.2.2.2.2.2.2.1, x11.2.2.2.2.2.2.2))))))) : (Int × ((List Int) × (Int × (Int × ((List (Int × Bool)) × ((Option Int) × (Int × Int))))))))) : (List (Int × ((List Int) × (Int × (Int × ((List (Int × Bool)) × ((Option Int) × (Int × Int)))))))))))), (("frames_there" : St9), (sV9 (a0_1 : Int))), (("turn" : St9), (sV9 (a0_2 : Int))), (("waiting" : St9), (sO9 (cL9 ((x9.2 : List Int).map (J.refS W.qs))))), (("lettings" : St9), (sV9 ((a0_4 + 1) : Int))), (("told" : St9), (sO9 (cL9 ((x15 : List J.Hap).map sV9))))])), (p7, (cL9 ((x6 : List Int).map (J.refS W.qs))))]⟩ : J.Stt) _ _
      have h9 := Option.some.inj h
      subst h9
      exact J.js_nil fun T tv σ H g => ⟨_, rfl, (), J.le_fgt (sl := [(sR9 (.ref p0)), sA9, sA9, sA9]) (cs := [(p0, (cI9 W.C_Plan [(("jobs" : St9), (sO9 (J.mlA (Cs0 W) W.qs (((List.set s1.1 (x5).toNat ((x11.1, (x11.2.1, (x11.2.2.1, (x11.2.2.2.1, (x11.2.2.2.2.1, ((some (a0_4 + 1)), (x11.2.2.2.2.2.2.1, x11.2.2.2.2.2.2.2))))))) : (Int × ((List Int) × (Int × (Int × ((List (Int × Bool)) × ((Option Int) × (Int × Int))))))))), (x9.2, x15)).1 : (List (Int × ((List Int) × (Int × (Int × ((List (Int × Bool)) × ((Option Int) × (Int × Int)))))))))))), (("frames_there" : St9), (sV9 (a0_1 : Int))), (("turn" : St9), (sV9 (a0_2 : Int))), (("waiting" : St9), (sO9 (cL9 ((((List.set s1.1 (x5).toNat ((x11.1, (x11.2.1, (x11.2.2.1, (x11.2.2.2.1, (x11.2.2.2.2.1, ((some (a0_4 + 1)), (x11.2.2.2.2.2.2.1, x11.2.2.2.2.2.2.2))))))) : (Int × ((List Int) × (Int × (Int × ((List (Int × Bool)) × ((Option Int) × (Int × Int))))))))), (x9.2, x15)).2.1 : List Int).map (J.refS W.qs))))), (("lettings" : St9), (sV9 ((a0_4 + 1) : Int))), (("told" : St9), (sO9 (cL9 ((((List.set s1.1 (x5).toNat ((x11.1, (x11.2.1, (x11.2.2.1, (x11.2.2.2.1, (x11.2.2.2.2.1, ((some (a0_4 + 1)), (x11.2.2.2.2.2.2.1, x11.2.2.2.2.2.2.2))))))) : (Int × ((List Int) × (Int × (Int × ((List (Int × Bool)) × ((Option Int) × (Int × Int))))))))), (x9.2, x15)).2.2 : List J.Hap).map sV9))))]))]) 1 (.keep (.drop (.drop (.drop .nil)))) rfl _ _ _ _ g⟩
  · subst e
    try rw [Sum.elim_inl] at h
    change J.JS _ _ (⟨[(sR9 (.ref p0)), sA9, sA9, sA9], [(p0, (cI9 W.C_Plan [(("jobs" : St9), (sO9 (J.mlA (Cs0 W) W.qs (s32.1 : (List (Int × ((List Int) × (Int × (Int × ((List (Int × Bool)) × ((Option Int) × (Int × Int)))))))))))), (("frames_there" : St9), (sV9 (a0_1 : Int))), (("turn" : St9), (sV9 (a0_2 : Int))), (("waiting" : St9), (sO9 (cL9 ((s32.2.1 : List Int).map (J.refS W.qs))))), (("lettings" : St9), (sV9 ((a0_4 + 1) : Int))), (("told" : St9), (sO9 (cL9 ((s32.2.2 : List J.Hap).map sV9))))]))]⟩ : J.Stt) _ _
    have h9 := Option.some.inj h
    subst h9
    exact J.js_fin 1 rfl rfl
structure G_Job_ask where
  p0 : PySem.Addr
  a0_0 : Int
  a0_1 : (List Int)
  a0_2 : Int
  a0_3 : Int
  a0_4 : (List (Int × Bool))
  a0_5 : (Option Int)
  a0_6_0 : Int
  a0_6_1 : Int
  out : ((Int × St9) × (Int × (List (Int × Bool))))
abbrev R_Job_ask {K : PySem.W.Frag} {mg : Str → Option Value} (W : Wd K mg) (r : ((Int × St9) × (Int × (List (Int × Bool))))) : J.Slot := (sV9 (r.1 : (Int × St9)))
abbrev C_Job_ask {K : PySem.W.Frag} {mg : Str → Option Value} (W : Wd K mg) (p0 : PySem.Addr) (a0_0 : Int) (a0_1 : (List Int)) (a0_2 : Int) (a0_3 : Int) (a0_4 : (List (Int × Bool))) (a0_5 : (Option Int)) (a0_6_0 : Int) (a0_6_1 : Int) (r : ((Int × St9) × (Int × (List (Int × Bool))))) : List (PySem.Addr × J.Cel) := [(p0, (cI9 W.C_Job [(("number" : St9), (sV9 (a0_0 : Int))), (("trace" : St9), (sV9 (a0_1 : (List Int)))), (("window" : St9), (sV9 (a0_2 : Int))), (("at" : St9), (sV9 (r.2.1 : Int))), (("pages_in" : St9), (sO9 (cD9 (J.dks (r.2.2 : List (Int × Bool))) (J.dss (r.2.2 : List (Int × Bool)))))), (("on_since" : St9), (sV9 (a0_5 : (Option Int)))), (("faults" : St9), (sO9 (cD9 [Sum.inr ("own" : St9), Sum.inr ("back" : St9)] [(sV9 (a0_6_0 : Int)), (sV9 (a0_6_1 : Int))])))]))]
abbrev A_Job_ask {K : PySem.W.Frag} {mg : Str → Option Value} (W : Wd K mg) (p0 : PySem.Addr) (a0_0 : Int) (a0_1 : (List Int)) (a0_2 : Int) (a0_3 : Int) (a0_4 : (List (Int × Bool))) (a0_5 : (Option Int)) (a0_6_0 : Int) (a0_6_1 : Int) : List J.Slot := [(sR9 (.ref p0))]
abbrev D_Job_ask {K : PySem.W.Frag} {mg : Str → Option Value} (W : Wd K mg) (p0 : PySem.Addr) (a0_0 : Int) (a0_1 : (List Int)) (a0_2 : Int) (a0_3 : Int) (a0_4 : (List (Int × Bool))) (a0_5 : (Option Int)) (a0_6_0 : Int) (a0_6_1 : Int) : List (PySem.Addr × J.Cel) := [(p0, (cI9 W.C_Job [(("number" : St9), (sV9 (a0_0 : Int))), (("trace" : St9), (sV9 (a0_1 : (List Int)))), (("window" : St9), (sV9 (a0_2 : Int))), (("at" : St9), (sV9 (a0_3 : Int))), (("pages_in" : St9), (sO9 (cD9 (J.dks (a0_4 : List (Int × Bool))) (J.dss (a0_4 : List (Int × Bool)))))), (("on_since" : St9), (sV9 (a0_5 : (Option Int)))), (("faults" : St9), (sO9 (cD9 [Sum.inr ("own" : St9), Sum.inr ("back" : St9)] [(sV9 (a0_6_0 : Int)), (sV9 (a0_6_1 : Int))])))]))]
def F_Job_ask {K : PySem.W.Frag} {mg : Str → Option Value} (W : Wd K mg)  : J.FS G_Job_ask where
  pre := fun g => m_Job_ask g.a0_0 g.a0_1 g.a0_2 g.a0_3 g.a0_4 g.a0_5 g.a0_6_0 g.a0_6_1 = some g.out
  preG := fun _ _ => True
  args := fun g => A_Job_ask W g.p0 g.a0_0 g.a0_1 g.a0_2 g.a0_3 g.a0_4 g.a0_5 g.a0_6_0 g.a0_6_1
  cells := fun g => D_Job_ask W g.p0 g.a0_0 g.a0_1 g.a0_2 g.a0_3 g.a0_4 g.a0_5 g.a0_6_0 g.a0_6_1
  res := fun g => R_Job_ask W g.out
  cells' := fun g => C_Job_ask W g.p0 g.a0_0 g.a0_1 g.a0_2 g.a0_3 g.a0_4 g.a0_5 g.a0_6_0 g.a0_6_1 g.out
theorem ok_Job_ask (W : Wd K mg) : FnOk P w K mg base CX0 2 W.a_Job_ask W.d_Job_ask ["self"] (F_Job_ask (W)).sp := by
  refine J.fn_okD (F_Job_ask (W)) W.F_Job_ask sc_Job_ask (fun g => rfl) (fun g => by intro s hs; simp only [F_Job_ask, List.mem_cons, List.not_mem_nil, or_false] at hs; rcases hs with rfl <;> first | rfl | exact J.xsl_plain) (fun cdv A outer s H E hr B g h hG => ?_)
  have hN := (sc_Job_ask).nd
  obtain ⟨p0, a0_0, a0_1, a0_2, a0_3, a0_4, a0_5, a0_6_0, a0_6_1, r0⟩ := g
  change m_Job_ask a0_0 a0_1 a0_2 a0_3 a0_4 a0_5 a0_6_0 a0_6_1 = some r0 at h
  unfold m_Job_ask at h
  change J.JS _ B (⟨[(sR9 (.ref p0)), sA9, sA9, sA9, sA9], [(p0, (cI9 W.C_Job [(("number" : St9), (sV9 (a0_0 : Int))), (("trace" : St9), (sV9 (a0_1 : (List Int)))), (("window" : St9), (sV9 (a0_2 : Int))), (("at" : St9), (sV9 (a0_3 : Int))), (("pages_in" : St9), (sO9 (cD9 (J.dks (a0_4 : List (Int × Bool))) (J.dss (a0_4 : List (Int × Bool)))))), (("on_since" : St9), (sV9 (a0_5 : (Option Int)))), (("faults" : St9), (sO9 (cD9 [Sum.inr ("own" : St9), Sum.inr ("back" : St9)] [(sV9 (a0_6_0 : Int)), (sV9 (a0_6_1 : Int))])))]))]⟩ : J.Stt) _ (J.fend B (F_Job_ask (W)) ⟨p0, a0_0, a0_1, a0_2, a0_3, a0_4, a0_5, a0_6_0, a0_6_1, r0⟩)
  obtain ⟨x1, hx1, h⟩ := J.bndE h
  refine J.js_set (hN := hN) 1 (J.je_ixv (xs := a0_1) (J.je_fget 0 W.cl_Job W.na_Job_trace (J.je_var 0 rfl) rfl rfl) (J.je_fget 0 W.cl_Job W.na_Job_at (J.je_var 0 rfl) rfl rfl) J.lv_val hx1) ?_
  obtain ⟨x2, hx2, h⟩ := J.bndE h
  refine J.js_new (hN := hN) 2 (J.je_mth0 (fr := F_Job_working_pages W) 0 W.cl_Job W.m_Job_working_pages (ok_Job_working_pages W) hr (by decide) W.b_Job_working_pages (J.je_var 0 rfl) rfl rfl (g := (⟨p0, a0_0, a0_1, a0_2, a0_3, a0_4, a0_5, a0_6_0, a0_6_1, x2⟩ : G_Job_working_pages)) hx2 rfl (.cons 0 rfl (by nofun) .nil) (.cons 0 rfl .nil) (hG := fun G e => trivial)) fun p3 => ?_
  change J.JS _ _ (⟨[(sR9 (.ref p0)), (sV9 (x1 : Int)), (sR9 (.ref p3)), sA9, sA9], [(p0, (cI9 W.C_Job [(("number" : St9), (sV9 (a0_0 : Int))), (("trace" : St9), (sV9 (a0_1 : (List Int)))), (("window" : St9), (sV9 (a0_2 : Int))), (("at" : St9), (sV9 (a0_3 : Int))), (("pages_in" : St9), (sO9 (cD9 (J.dks (a0_4 : List (Int × Bool))) (J.dss (a0_4 : List (Int × Bool)))))), (("on_since" : St9), (sV9 (a0_5 : (Option Int)))), (("faults" : St9), (sO9 (cD9 [Sum.inr ("own" : St9), Sum.inr ("back" : St9)] [(sV9 (a0_6_0 : Int)), (sV9 (a0_6_1 : Int))])))])), (p3, (cD9 (J.dks (x2 : List (Int × Bool))) (J.dss (x2 : List (Int × Bool)))))]⟩ : J.Stt) _ _
  refine J.js_faug 0 L2.in_add W.cl_Job W.na_Job_at (J.je_var 0 rfl) rfl rfl J.je_int rfl ?_
  change J.JS _ _ (⟨[(sR9 (.ref p0)), (sV9 (x1 : Int)), (sR9 (.ref p3)), sA9, sA9], [(p0, (cI9 W.C_Job [(("number" : St9), (sV9 (a0_0 : Int))), (("trace" : St9), (sV9 (a0_1 : (List Int)))), (("window" : St9), (sV9 (a0_2 : Int))), (("at" : St9), (sV9 ((a0_3 + 1) : Int))), (("pages_in" : St9), (sO9 (cD9 (J.dks (a0_4 : List (Int × Bool))) (J.dss (a0_4 : List (Int × Bool)))))), (("on_since" : St9), (sV9 (a0_5 : (Option Int)))), (("faults" : St9), (sO9 (cD9 [Sum.inr ("own" : St9), Sum.inr ("back" : St9)] [(sV9 (a0_6_0 : Int)), (sV9 (a0_6_1 : Int))])))])), (p3, (cD9 (J.dks (x2 : List (Int × Bool))) (J.dss (x2 : List (Int × Bool)))))]⟩ : J.Stt) _ _
  obtain ⟨x4, hx4, h⟩ := J.bndE h
  refine J.js_new (hN := hN) 3 (J.je_mth0 (fr := F_Job_working_pages W) 0 W.cl_Job W.m_Job_working_pages (ok_Job_working_pages W) hr (by decide) W.b_Job_working_pages (J.je_var 0 rfl) rfl rfl (g := (⟨p0, a0_0, a0_1, a0_2, (a0_3 + 1), a0_4, a0_5, a0_6_0, a0_6_1, x4⟩ : G_Job_working_pages)) hx4 rfl (.cons 0 rfl (by nofun) .nil) (.cons 0 rfl .nil) (hG := fun G e => trivial)) fun p5 => ?_
  change J.JS _ _ (⟨[(sR9 (.ref p0)), (sV9 (x1 : Int)), (sR9 (.ref p3)), (sR9 (.ref p5)), sA9], [(p0, (cI9 W.C_Job [(("number" : St9), (sV9 (a0_0 : Int))), (("trace" : St9), (sV9 (a0_1 : (List Int)))), (("window" : St9), (sV9 (a0_2 : Int))), (("at" : St9), (sV9 ((a0_3 + 1) : Int))), (("pages_in" : St9), (sO9 (cD9 (J.dks (a0_4 : List (Int × Bool))) (J.dss (a0_4 : List (Int × Bool)))))), (("on_since" : St9), (sV9 (a0_5 : (Option Int)))), (("faults" : St9), (sO9 (cD9 [Sum.inr ("own" : St9), Sum.inr ("back" : St9)] [(sV9 (a0_6_0 : Int)), (sV9 (a0_6_1 : Int))])))])), (p3, (cD9 (J.dks (x2 : List (Int × Bool))) (J.dss (x2 : List (Int × Bool))))), (p5, (cD9 (J.dks (x4 : List (Int × Bool))) (J.dss (x4 : List (Int × Bool)))))]⟩ : J.Stt) _ _
  refine J.js_open 0 4 rfl rfl fun p6 => ?_
  change J.JS _ _ (⟨[(sR9 (.ref p0)), (sV9 (x1 : Int)), (sR9 (.ref p3)), (sR9 (.ref p5)), sA9], [(p0, (cI9 W.C_Job [(("number" : St9), (sV9 (a0_0 : Int))), (("trace" : St9), (sV9 (a0_1 : (List Int)))), (("window" : St9), (sV9 (a0_2 : Int))), (("at" : St9), (sV9 ((a0_3 + 1) : Int))), (("pages_in" : St9), (sR9 (.ref p6))), (("on_since" : St9), (sV9 (a0_5 : (Option Int)))), (("faults" : St9), (sO9 (cD9 [Sum.inr ("own" : St9), Sum.inr ("back" : St9)] [(sV9 (a0_6_0 : Int)), (sV9 (a0_6_1 : Int))])))])), (p3, (cD9 (J.dks (x2 : List (Int × Bool))) (J.dss (x2 : List (Int × Bool))))), (p5, (cD9 (J.dks (x4 : List (Int × Bool))) (J.dss (x4 : List (Int × Bool))))), (p6, (cD9 (J.dks (a0_4 : List (Int × Bool))) (J.dss (a0_4 : List (Int × Bool)))))]⟩ : J.Stt) _ _
  obtain ⟨x10, hx10, h⟩ := J.bndE h
  refine J.js_fputA 0 W.cl_Job W.na_Job_pages_in (J.je_lockD (m := a0_4) 3 rfl (fun ob gs hks => (J.je_dc (f := m_Job_ask_c0 x4) (Sf := fun (s7 : Unit) => (⟨[(sR9 (.ref p0)), (sV9 (x1 : Int)), (sR9 (.ref p3)), (sR9 (.ref p5)), sA9], [(p0, (cI9 W.C_Job [(("number" : St9), (sV9 (a0_0 : Int))), (("trace" : St9), (sV9 (a0_1 : (List Int)))), (("window" : St9), (sV9 (a0_2 : Int))), (("at" : St9), (sV9 ((a0_3 + 1) : Int))), (("pages_in" : St9), (sR9 (.ref p6))), (("on_since" : St9), (sV9 (a0_5 : (Option Int)))), (("faults" : St9), (sO9 (cD9 [Sum.inr ("own" : St9), Sum.inr ("back" : St9)] [(sV9 (a0_6_0 : Int)), (sV9 (a0_6_1 : Int))])))])), (p3, (cD9 (J.dks (x2 : List (Int × Bool))) (J.dss (x2 : List (Int × Bool))))), (p5, (cD9 (J.dks (x4 : List (Int × Bool))) (J.dss (x4 : List (Int × Bool))))), (p6, (J.Cel.fdk ob gs (J.dss (a0_4 : List (Int × Bool)))))]⟩ : J.Stt)) (Sb := fun (s7 : Unit) (x9 : Int) => (⟨[(sR9 (.ref p0)), (sV9 (x1 : Int)), (sR9 (.ref p3)), (sR9 (.ref p5)), (sV9 (x9 : Int))], [(p0, (cI9 W.C_Job [(("number" : St9), (sV9 (a0_0 : Int))), (("trace" : St9), (sV9 (a0_1 : (List Int)))), (("window" : St9), (sV9 (a0_2 : Int))), (("at" : St9), (sV9 ((a0_3 + 1) : Int))), (("pages_in" : St9), (sR9 (.ref p6))), (("on_since" : St9), (sV9 (a0_5 : (Option Int)))), (("faults" : St9), (sO9 (cD9 [Sum.inr ("own" : St9), Sum.inr ("back" : St9)] [(sV9 (a0_6_0 : Int)), (sV9 (a0_6_1 : Int))])))])), (p3, (cD9 (J.dks (x2 : List (Int × Bool))) (J.dss (x2 : List (Int × Bool))))), (p5, (cD9 (J.dks (x4 : List (Int × Bool))) (J.dss (x4 : List (Int × Bool))))), (p6, (J.Cel.fdk ob gs (J.dss (a0_4 : List (Int × Bool)))))]⟩ : J.Stt)) (s0 := ()) (own := [(("one" : St9), 4)]) (ws := [4]) (J.lcM_of hx10).2 (J.lcM_of hx10).1 hN (L2.blkOk_by (N := ["self", "page", "ahead", "now", "one"]) (sc := defScope s_Job_ask) (by decide +kernel)) (J.ji_dkeys (m := a0_4) 3 hks (J.je_fget 0 W.cl_Job W.na_Job_pages_in (J.je_var 0 rfl) rfl rfl) rfl) (J.le_fgt 4 (.keep (.keep (.keep (.keep (.drop .nil))))) rfl) (fun _ => rfl) (fun _ => J.any_at rfl) (by decide) (fun s7 x9 => fun s91 H91 C91 cl91 fp91 =>  J.inJG hN fun hN => (J.jg_name 4 (hN := hN))) (fun s7 x9 o sZ _ h => by
      unfold m_Job_ask_c0 at h
      by_cases hp : (J.dhas x4 x9) = true
      · replace h := J.ifT hp h
        obtain ⟨h8, h9⟩ := Prod.mk.inj (Option.some.inj h)
        subst h8
        subst h9
        exact ⟨true, _, (fun s91 H91 C91 cl91 fp91 =>  J.inJTs hr hN fun hr hN => J.jts_one (J.jt_eq (J.jt_dinI (m := x4) 2 hr (J.je_var 4 rfl) (J.je_var 3 rfl) rfl) hp)), fun _ => ⟨_, _, rfl, _, (fun s91 H91 C91 cl91 fp91 =>  J.inJE hr hN fun hr hN => (J.je_var 4 rfl)), (fun s91 H91 C91 cl91 fp91 =>  J.inJE hr hN fun hr hN => J.je_bl), (J.le_fgt 4 (.keep (.keep (.keep (.keep (.drop .nil))))) rfl)⟩, nofun⟩
      · rw [Bool.not_eq_true] at hp
        replace h := J.ifF hp h
        obtain ⟨h8, h9⟩ := Prod.mk.inj (Option.some.inj h)
        subst h8
        subst h9
        exact ⟨false, _, (fun s91 H91 C91 cl91 fp91 =>  J.inJTs hr hN fun hr hN => J.jts_one (J.jt_eq (J.jt_dinI (m := x4) 2 hr (J.je_var 4 rfl) (J.je_var 3 rfl) rfl) hp)), nofun, fun _ => ⟨rfl, (J.le_fgt 4 (.keep (.keep (.keep (.keep (.drop .nil))))) rfl)⟩⟩)))) (J.je_var 0 rfl) rfl ?_
  change J.JS _ _ (⟨[(sR9 (.ref p0)), (sV9 (x1 : Int)), (sR9 (.ref p3)), (sR9 (.ref p5)), sA9], [(p0, (cI9 W.C_Job [(("number" : St9), (sV9 (a0_0 : Int))), (("trace" : St9), (sV9 (a0_1 : (List Int)))), (("window" : St9), (sV9 (a0_2 : Int))), (("at" : St9), (sV9 ((a0_3 + 1) : Int))), (("pages_in" : St9), (sO9 (cD9 (J.dks ((J.dOf (x10.1 : List (Int × Bool))) : List (Int × Bool))) (J.dss ((J.dOf (x10.1 : List (Int × Bool))) : List (Int × Bool)))))), (("on_since" : St9), (sV9 (a0_5 : (Option Int)))), (("faults" : St9), (sO9 (cD9 [Sum.inr ("own" : St9), Sum.inr ("back" : St9)] [(sV9 (a0_6_0 : Int)), (sV9 (a0_6_1 : Int))])))])), (p3, (cD9 (J.dks (x2 : List (Int × Bool))) (J.dss (x2 : List (Int × Bool))))), (p5, (cD9 (J.dks (x4 : List (Int × Bool))) (J.dss (x4 : List (Int × Bool))))), (p6, (cD9 (J.dks (a0_4 : List (Int × Bool))) (J.dss (a0_4 : List (Int × Bool)))))]⟩ : J.Stt) _ _
  refine J.js_take 3 ?_
  change J.JS _ _ (⟨[(sR9 (.ref p0)), (sV9 (x1 : Int)), (sR9 (.ref p3)), (sR9 (.ref p5)), sA9], [(p0, (cI9 W.C_Job [(("number" : St9), (sV9 (a0_0 : Int))), (("trace" : St9), (sV9 (a0_1 : (List Int)))), (("window" : St9), (sV9 (a0_2 : Int))), (("at" : St9), (sV9 ((a0_3 + 1) : Int))), (("pages_in" : St9), (sO9 (cD9 (J.dks ((J.dOf (x10.1 : List (Int × Bool))) : List (Int × Bool))) (J.dss ((J.dOf (x10.1 : List (Int × Bool))) : List (Int × Bool)))))), (("on_since" : St9), (sV9 (a0_5 : (Option Int)))), (("faults" : St9), (sO9 (cD9 [Sum.inr ("own" : St9), Sum.inr ("back" : St9)] [(sV9 (a0_6_0 : Int)), (sV9 (a0_6_1 : Int))])))])), (p3, (cD9 (J.dks (x2 : List (Int × Bool))) (J.dss (x2 : List (Int × Bool))))), (p5, (cD9 (J.dks (x4 : List (Int × Bool))) (J.dss (x4 : List (Int × Bool)))))]⟩ : J.Stt) _ _
  refine J.js_open 0 4 rfl rfl fun p11 => ?_
  change J.JS _ _ (⟨[(sR9 (.ref p0)), (sV9 (x1 : Int)), (sR9 (.ref p3)), (sR9 (.ref p5)), sA9], [(p0, (cI9 W.C_Job [(("number" : St9), (sV9 (a0_0 : Int))), (("trace" : St9), (sV9 (a0_1 : (List Int)))), (("window" : St9), (sV9 (a0_2 : Int))), (("at" : St9), (sV9 ((a0_3 + 1) : Int))), (("pages_in" : St9), (sR9 (.ref p11))), (("on_since" : St9), (sV9 (a0_5 : (Option Int)))), (("faults" : St9), (sO9 (cD9 [Sum.inr ("own" : St9), Sum.inr ("back" : St9)] [(sV9 (a0_6_0 : Int)), (sV9 (a0_6_1 : Int))])))])), (p3, (cD9 (J.dks (x2 : List (Int × Bool))) (J.dss (x2 : List (Int × Bool))))), (p5, (cD9 (J.dks (x4 : List (Int × Bool))) (J.dss (x4 : List (Int × Bool))))), (p11, (cD9 (J.dks ((J.dOf (x10.1 : List (Int × Bool))) : List (Int × Bool))) (J.dss ((J.dOf (x10.1 : List (Int × Bool))) : List (Int × Bool)))))]⟩ : J.Stt) _ _
  refine J.js_if (J.jt_dinI (m := (J.dOf (x10.1 : List (Int × Bool)))) 3 hr (J.je_var 1 rfl) (J.je_fget 0 W.cl_Job W.na_Job_pages_in (J.je_var 0 rfl) rfl rfl) rfl) (fun hp => ?_) (fun hp => ?_)
  · replace h := J.ifT hp h
    refine J.js_fold 0 3 4 3 rfl rfl rfl (by decide) (by nofun) ?_
    change J.JS _ _ (⟨[(sR9 (.ref p0)), (sV9 (x1 : Int)), (sR9 (.ref p3)), (sR9 (.ref p5)), sA9], [(p0, (cI9 W.C_Job [(("number" : St9), (sV9 (a0_0 : Int))), (("trace" : St9), (sV9 (a0_1 : (List Int)))), (("window" : St9), (sV9 (a0_2 : Int))), (("at" : St9), (sV9 ((a0_3 + 1) : Int))), (("pages_in" : St9), (sO9 (cD9 (J.dks ((J.dOf (x10.1 : List (Int × Bool))) : List (Int × Bool))) (J.dss ((J.dOf (x10.1 : List (Int × Bool))) : List (Int × Bool)))))), (("on_since" : St9), (sV9 (a0_5 : (Option Int)))), (("faults" : St9), (sO9 (cD9 [Sum.inr ("own" : St9), Sum.inr ("back" : St9)] [(sV9 (a0_6_0 : Int)), (sV9 (a0_6_1 : Int))])))])), (p3, (cD9 (J.dks (x2 : List (Int × Bool))) (J.dss (x2 : List (Int × Bool))))), (p5, (cD9 (J.dks (x4 : List (Int × Bool))) (J.dss (x4 : List (Int × Bool)))))]⟩ : J.Stt) _ _
    have h9 := Option.some.inj h
    subst h9
    exact J.js_ret (J.je_tup (t := ((x1, ("hit" : St9)) : (Int × St9))) (J.ja_cons (J.je_var 1 rfl) (J.ja_cons (J.je_globS W.gS_HIT) J.ja_nil)) (J.SlDs.cons J.sld_val (J.SlDs.cons J.sld_val J.SlDs.nil)) rfl (Nat.le_of_ble_eq_true rfl)) fun v H o => J.Out.take 1 o
  · replace h := J.ifF hp h
    refine J.js_fold 0 3 4 3 rfl rfl rfl (by decide) (by nofun) ?_
    change J.JS _ _ (⟨[(sR9 (.ref p0)), (sV9 (x1 : Int)), (sR9 (.ref p3)), (sR9 (.ref p5)), sA9], [(p0, (cI9 W.C_Job [(("number" : St9), (sV9 (a0_0 : Int))), (("trace" : St9), (sV9 (a0_1 : (List Int)))), (("window" : St9), (sV9 (a0_2 : Int))), (("at" : St9), (sV9 ((a0_3 + 1) : Int))), (("pages_in" : St9), (sO9 (cD9 (J.dks ((J.dOf (x10.1 : List (Int × Bool))) : List (Int × Bool))) (J.dss ((J.dOf (x10.1 : List (Int × Bool))) : List (Int × Bool)))))), (("on_since" : St9), (sV9 (a0_5 : (Option Int)))), (("faults" : St9), (sO9 (cD9 [Sum.inr ("own" : St9), Sum.inr ("back" : St9)] [(sV9 (a0_6_0 : Int)), (sV9 (a0_6_1 : Int))])))])), (p3, (cD9 (J.dks (x2 : List (Int × Bool))) (J.dss (x2 : List (Int × Bool))))), (p5, (cD9 (J.dks (x4 : List (Int × Bool))) (J.dss (x4 : List (Int × Bool)))))]⟩ : J.Stt) _ _
    refine J.js_end ?_
    change J.JS _ _ (⟨[(sR9 (.ref p0)), (sV9 (x1 : Int)), (sR9 (.ref p3)), (sR9 (.ref p5)), sA9], [(p0, (cI9 W.C_Job [(("number" : St9), (sV9 (a0_0 : Int))), (("trace" : St9), (sV9 (a0_1 : (List Int)))), (("window" : St9), (sV9 (a0_2 : Int))), (("at" : St9), (sV9 ((a0_3 + 1) : Int))), (("pages_in" : St9), (sO9 (cD9 (J.dks ((J.dOf (x10.1 : List (Int × Bool))) : List (Int × Bool))) (J.dss ((J.dOf (x10.1 : List (Int × Bool))) : List (Int × Bool)))))), (("on_since" : St9), (sV9 (a0_5 : (Option Int)))), (("faults" : St9), (sO9 (cD9 [Sum.inr ("own" : St9), Sum.inr ("back" : St9)] [(sV9 (a0_6_0 : Int)), (sV9 (a0_6_1 : Int))])))])), (p3, (cD9 (J.dks (x2 : List (Int × Bool))) (J.dss (x2 : List (Int × Bool))))), (p5, (cD9 (J.dks (x4 : List (Int × Bool))) (J.dss (x4 : List (Int × Bool)))))]⟩ : J.Stt) _ _
    obtain ⟨x12, hx12, h⟩ := J.bndE h
    have h9 := Option.some.inj h
    subst h9
    exact J.js_ret (S1 := (⟨[(sR9 (.ref p0)), (sV9 (x1 : Int)), (sR9 (.ref p3)), (sR9 (.ref p5)), sA9], [(p0, (cI9 W.C_Job [(("number" : St9), (sV9 (a0_0 : Int))), (("trace" : St9), (sV9 (a0_1 : (List Int)))), (("window" : St9), (sV9 (a0_2 : Int))), (("at" : St9), (sV9 ((a0_3 + 1) : Int))), (("pages_in" : St9), (sO9 (cD9 (J.dks ((J.dOf (x10.1 : List (Int × Bool))) : List (Int × Bool))) (J.dss ((J.dOf (x10.1 : List (Int × Bool))) : List (Int × Bool)))))), (("on_since" : St9), (sV9 (a0_5 : (Option Int)))), (("faults" : St9), (sO9 (cD9 [Sum.inr ("own" : St9), Sum.inr ("back" : St9)] [(sV9 (a0_6_0 : Int)), (sV9 (a0_6_1 : Int))])))])), (p3, (cD9 (J.dks (x2 : List (Int × Bool))) (J.dss (x2 : List (Int × Bool))))), (p5, (cD9 (J.dks (x4 : List (Int × Bool))) (J.dss (x4 : List (Int × Bool)))))]⟩ : J.Stt)) (J.je_tup (t := ((x1, x12) : (Int × St9))) (J.ja_cons (J.je_var 1 rfl) (J.ja_cons (J.je_ifM (el := sV9) hx12 (J.jt_dinI (m := x2) 1 hr (J.je_var 1 rfl) (J.je_var 2 rfl) rfl) (fun _ r h => by
      have h9 := Option.some.inj h
      subst h9
      exact (J.je_globS W.gS_BACK)) (fun _ r h => by
      have h9 := Option.some.inj h
      subst h9
      exact (J.je_globS W.gS_OWN))) J.ja_nil)) (J.SlDs.cons J.sld_val (J.SlDs.cons J.sld_val J.SlDs.nil)) rfl (Nat.le_of_ble_eq_true rfl)) fun v H o => J.Out.take 1 o
structure G_Job_leave where
  p0 : PySem.Addr
  a0_0 : Int
  a0_1 : (List Int)
  a0_2 : Int
  a0_3 : Int
  a0_4 : (List (Int × Bool))
  a0_5 : (Option Int)
  a0_6_0 : Int
  a0_6_1 : Int
  out : ((List (Int × Bool)) × (Option Int))
abbrev R_Job_leave {K : PySem.W.Frag} {mg : Str → Option Value} (W : Wd K mg) (r : ((List (Int × Bool)) × (Option Int))) : J.Slot := (sR9 .non)
abbrev C_Job_leave {K : PySem.W.Frag} {mg : Str → Option Value} (W : Wd K mg) (p0 : PySem.Addr) (a0_0 : Int) (a0_1 : (List Int)) (a0_2 : Int) (a0_3 : Int) (a0_4 : (List (Int × Bool))) (a0_5 : (Option Int)) (a0_6_0 : Int) (a0_6_1 : Int) (r : ((List (Int × Bool)) × (Option Int))) : List (PySem.Addr × J.Cel) := [(p0, (cI9 W.C_Job [(("number" : St9), (sV9 (a0_0 : Int))), (("trace" : St9), (sV9 (a0_1 : (List Int)))), (("window" : St9), (sV9 (a0_2 : Int))), (("at" : St9), (sV9 (a0_3 : Int))), (("pages_in" : St9), (sO9 (cD9 (J.dks (r.1 : List (Int × Bool))) (J.dss (r.1 : List (Int × Bool)))))), (("on_since" : St9), (sV9 (r.2 : (Option Int)))), (("faults" : St9), (sO9 (cD9 [Sum.inr ("own" : St9), Sum.inr ("back" : St9)] [(sV9 (a0_6_0 : Int)), (sV9 (a0_6_1 : Int))])))]))]
abbrev A_Job_leave {K : PySem.W.Frag} {mg : Str → Option Value} (W : Wd K mg) (p0 : PySem.Addr) (a0_0 : Int) (a0_1 : (List Int)) (a0_2 : Int) (a0_3 : Int) (a0_4 : (List (Int × Bool))) (a0_5 : (Option Int)) (a0_6_0 : Int) (a0_6_1 : Int) : List J.Slot := [(sR9 (.ref p0))]
abbrev D_Job_leave {K : PySem.W.Frag} {mg : Str → Option Value} (W : Wd K mg) (p0 : PySem.Addr) (a0_0 : Int) (a0_1 : (List Int)) (a0_2 : Int) (a0_3 : Int) (a0_4 : (List (Int × Bool))) (a0_5 : (Option Int)) (a0_6_0 : Int) (a0_6_1 : Int) : List (PySem.Addr × J.Cel) := [(p0, (cI9 W.C_Job [(("number" : St9), (sV9 (a0_0 : Int))), (("trace" : St9), (sV9 (a0_1 : (List Int)))), (("window" : St9), (sV9 (a0_2 : Int))), (("at" : St9), (sV9 (a0_3 : Int))), (("pages_in" : St9), (sO9 (cD9 (J.dks (a0_4 : List (Int × Bool))) (J.dss (a0_4 : List (Int × Bool)))))), (("on_since" : St9), (sV9 (a0_5 : (Option Int)))), (("faults" : St9), (sO9 (cD9 [Sum.inr ("own" : St9), Sum.inr ("back" : St9)] [(sV9 (a0_6_0 : Int)), (sV9 (a0_6_1 : Int))])))]))]
def F_Job_leave {K : PySem.W.Frag} {mg : Str → Option Value} (W : Wd K mg)  : J.FS G_Job_leave where
  pre := fun g => m_Job_leave g.a0_0 g.a0_1 g.a0_2 g.a0_3 g.a0_4 g.a0_5 g.a0_6_0 g.a0_6_1 = some g.out
  preG := fun _ _ => True
  args := fun g => A_Job_leave W g.p0 g.a0_0 g.a0_1 g.a0_2 g.a0_3 g.a0_4 g.a0_5 g.a0_6_0 g.a0_6_1
  cells := fun g => D_Job_leave W g.p0 g.a0_0 g.a0_1 g.a0_2 g.a0_3 g.a0_4 g.a0_5 g.a0_6_0 g.a0_6_1
  res := fun g => R_Job_leave W g.out
  cells' := fun g => C_Job_leave W g.p0 g.a0_0 g.a0_1 g.a0_2 g.a0_3 g.a0_4 g.a0_5 g.a0_6_0 g.a0_6_1 g.out
theorem ok_Job_leave (W : Wd K mg) : FnOk P w K mg base CX0 1 W.a_Job_leave W.d_Job_leave ["self"] (F_Job_leave (W)).sp := by
  refine J.fn_okD (F_Job_leave (W)) W.F_Job_leave sc_Job_leave (fun g => rfl) (fun g => by intro s hs; simp only [F_Job_leave, List.mem_cons, List.not_mem_nil, or_false] at hs; rcases hs with rfl <;> first | rfl | exact J.xsl_plain) (fun cdv A outer s H E hr B g h hG => ?_)
  have hN := (sc_Job_leave).nd
  obtain ⟨p0, a0_0, a0_1, a0_2, a0_3, a0_4, a0_5, a0_6_0, a0_6_1, r0⟩ := g
  change m_Job_leave a0_0 a0_1 a0_2 a0_3 a0_4 a0_5 a0_6_0 a0_6_1 = some r0 at h
  unfold m_Job_leave at h
  change J.JS _ B (⟨[(sR9 (.ref p0))], [(p0, (cI9 W.C_Job [(("number" : St9), (sV9 (a0_0 : Int))), (("trace" : St9), (sV9 (a0_1 : (List Int)))), (("window" : St9), (sV9 (a0_2 : Int))), (("at" : St9), (sV9 (a0_3 : Int))), (("pages_in" : St9), (sO9 (cD9 (J.dks (a0_4 : List (Int × Bool))) (J.dss (a0_4 : List (Int × Bool)))))), (("on_since" : St9), (sV9 (a0_5 : (Option Int)))), (("faults" : St9), (sO9 (cD9 [Sum.inr ("own" : St9), Sum.inr ("back" : St9)] [(sV9 (a0_6_0 : Int)), (sV9 (a0_6_1 : Int))])))]))]⟩ : J.Stt) _ (J.fend B (F_Job_leave (W)) ⟨p0, a0_0, a0_1, a0_2, a0_3, a0_4, a0_5, a0_6_0, a0_6_1, r0⟩)
  refine J.js_fputA 0 W.cl_Job W.na_Job_pages_in (J.je_disp0 (β := Bool)) (J.je_var 0 rfl) rfl ?_
  change J.JS _ _ (⟨[(sR9 (.ref p0))], [(p0, (cI9 W.C_Job [(("number" : St9), (sV9 (a0_0 : Int))), (("trace" : St9), (sV9 (a0_1 : (List Int)))), (("window" : St9), (sV9 (a0_2 : Int))), (("at" : St9), (sV9 (a0_3 : Int))), (("pages_in" : St9), (sO9 (cD9 (J.dks (([] : List (Int × Bool)) : List (Int × Bool))) (J.dss (([] : List (Int × Bool)) : List (Int × Bool)))))), (("on_since" : St9), (sV9 (a0_5 : (Option Int)))), (("faults" : St9), (sO9 (cD9 [Sum.inr ("own" : St9), Sum.inr ("back" : St9)] [(sV9 (a0_6_0 : Int)), (sV9 (a0_6_1 : Int))])))]))]⟩ : J.Stt) _ _
  refine J.js_fputA 0 W.cl_Job W.na_Job_on_since (J.je_nonO (α := Int) J.je_non) (J.je_var 0 rfl) rfl ?_
  change J.JS _ _ (⟨[(sR9 (.ref p0))], [(p0, (cI9 W.C_Job [(("number" : St9), (sV9 (a0_0 : Int))), (("trace" : St9), (sV9 (a0_1 : (List Int)))), (("window" : St9), (sV9 (a0_2 : Int))), (("at" : St9), (sV9 (a0_3 : Int))), (("pages_in" : St9), (sO9 (cD9 (J.dks (([] : List (Int × Bool)) : List (Int × Bool))) (J.dss (([] : List (Int × Bool)) : List (Int × Bool)))))), (("on_since" : St9), (sV9 (none : (Option Int)))), (("faults" : St9), (sO9 (cD9 [Sum.inr ("own" : St9), Sum.inr ("back" : St9)] [(sV9 (a0_6_0 : Int)), (sV9 (a0_6_1 : Int))])))]))]⟩ : J.Stt) _ _
  have h9 := Option.some.inj h
  subst h9
  exact J.js_fin 1 rfl rfl
structure G_Plan_make_room where
  p0 : PySem.Addr
  a1 : Int
  a0_0 : (List (Int × ((List Int) × (Int × (Int × ((List (Int × Bool)) × ((Option Int) × (Int × Int))))))))
  a0_1 : Int
  a0_2 : Int
  a0_3 : (List Int)
  a0_4 : Int
  a0_5 : (List J.Hap)
  out : ((List (Int × ((List Int) × (Int × (Int × ((List (Int × Bool)) × ((Option Int) × (Int × Int)))))))) × ((List Int) × (List J.Hap)))
abbrev R_Plan_make_room {K : PySem.W.Frag} {mg : Str → Option Value} (W : Wd K mg) (r : ((List (Int × ((List Int) × (Int × (Int × ((List (Int × Bool)) × ((Option Int) × (Int × Int)))))))) × ((List Int) × (List J.Hap)))) : J.Slot := (sR9 .non)
abbrev C_Plan_make_room {K : PySem.W.Frag} {mg : Str → Option Value} (W : Wd K mg) (p0 : PySem.Addr) (a1 : Int) (a0_0 : (List (Int × ((List Int) × (Int × (Int × ((List (Int × Bool)) × ((Option Int) × (Int × Int))))))))) (a0_1 : Int) (a0_2 : Int) (a0_3 : (List Int)) (a0_4 : Int) (a0_5 : (List J.Hap)) (r : ((List (Int × ((List Int) × (Int × (Int × ((List (Int × Bool)) × ((Option Int) × (Int × Int)))))))) × ((List Int) × (List J.Hap)))) : List (PySem.Addr × J.Cel) := [(p0, (cI9 W.C_Plan [(("jobs" : St9), (sO9 (J.mlA (Cs0 W) W.qs (r.1 : (List (Int × ((List Int) × (Int × (Int × ((List (Int × Bool)) × ((Option Int) × (Int × Int)))))))))))), (("frames_there" : St9), (sV9 (a0_1 : Int))), (("turn" : St9), (sV9 (a0_2 : Int))), (("waiting" : St9), (sO9 (cL9 ((r.2.1 : List Int).map (J.refS W.qs))))), (("lettings" : St9), (sV9 (a0_4 : Int))), (("told" : St9), (sO9 (cL9 ((r.2.2 : List J.Hap).map sV9))))]))]
abbrev A_Plan_make_room {K : PySem.W.Frag} {mg : Str → Option Value} (W : Wd K mg) (p0 : PySem.Addr) (a1 : Int) (a0_0 : (List (Int × ((List Int) × (Int × (Int × ((List (Int × Bool)) × ((Option Int) × (Int × Int))))))))) (a0_1 : Int) (a0_2 : Int) (a0_3 : (List Int)) (a0_4 : Int) (a0_5 : (List J.Hap)) : List J.Slot := [(sR9 (.ref p0)), (J.refS W.qs (a1 : Int))]
abbrev D_Plan_make_room {K : PySem.W.Frag} {mg : Str → Option Value} (W : Wd K mg) (p0 : PySem.Addr) (a1 : Int) (a0_0 : (List (Int × ((List Int) × (Int × (Int × ((List (Int × Bool)) × ((Option Int) × (Int × Int))))))))) (a0_1 : Int) (a0_2 : Int) (a0_3 : (List Int)) (a0_4 : Int) (a0_5 : (List J.Hap)) : List (PySem.Addr × J.Cel) := [(p0, (cI9 W.C_Plan [(("jobs" : St9), (sO9 (J.mlA (Cs0 W) W.qs (a0_0 : (List (Int × ((List Int) × (Int × (Int × ((List (Int × Bool)) × ((Option Int) × (Int × Int)))))))))))), (("frames_there" : St9), (sV9 (a0_1 : Int))), (("turn" : St9), (sV9 (a0_2 : Int))), (("waiting" : St9), (sO9 (cL9 ((a0_3 : List Int).map (J.refS W.qs))))), (("lettings" : St9), (sV9 (a0_4 : Int))), (("told" : St9), (sO9 (cL9 ((a0_5 : List J.Hap).map sV9))))]))]
def F_Plan_make_room {K : PySem.W.Frag} {mg : Str → Option Value} (W : Wd K mg)  : J.FS G_Plan_make_room where
  pre := fun g => m_Plan_make_room g.a1 g.a0_0 g.a0_1 g.a0_2 g.a0_3 g.a0_4 g.a0_5 = some g.out
  preG := fun _ _ => True
  args := fun g => A_Plan_make_room W g.p0 g.a1 g.a0_0 g.a0_1 g.a0_2 g.a0_3 g.a0_4 g.a0_5
  cells := fun g => D_Plan_make_room W g.p0 g.a1 g.a0_0 g.a0_1 g.a0_2 g.a0_3 g.a0_4 g.a0_5
  res := fun g => R_Plan_make_room W g.out
  cells' := fun g => C_Plan_make_room W g.p0 g.a1 g.a0_0 g.a0_1 g.a0_2 g.a0_3 g.a0_4 g.a0_5 g.out
theorem ok_Plan_make_room (W : Wd K mg) : FnOk P w K mg base CX0 3 W.a_Plan_make_room W.d_Plan_make_room ["self", "asking"] (F_Plan_make_room (W)).sp := by
  refine J.fn_okD (F_Plan_make_room (W)) W.F_Plan_make_room sc_Plan_make_room (fun g => rfl) (fun g => by intro s hs; simp only [F_Plan_make_room, List.mem_cons, List.not_mem_nil, or_false] at hs; rcases hs with rfl | rfl <;> first | rfl | exact J.xsl_plain) (fun cdv A outer s H E hr B g h hG => ?_)
  have hN := (sc_Plan_make_room).nd
  obtain ⟨p0, a1, a0_0, a0_1, a0_2, a0_3, a0_4, a0_5, r0⟩ := g
  change m_Plan_make_room a1 a0_0 a0_1 a0_2 a0_3 a0_4 a0_5 = some r0 at h
  unfold m_Plan_make_room at h
  change J.JS _ B (⟨[(sR9 (.ref p0)), (J.refS W.qs (a1 : Int)), sA9, sA9], [(p0, (cI9 W.C_Plan [(("jobs" : St9), (sO9 (J.mlA (Cs0 W) W.qs (a0_0 : (List (Int × ((List Int) × (Int × (Int × ((List (Int × Bool)) × ((Option Int) × (Int × Int)))))))))))), (("frames_there" : St9), (sV9 (a0_1 : Int))), (("turn" : St9), (sV9 (a0_2 : Int))), (("waiting" : St9), (sO9 (cL9 ((a0_3 : List Int).map (J.refS W.qs))))), (("lettings" : St9), (sV9 (a0_4 : Int))), (("told" : St9), (sO9 (cL9 ((a0_5 : List J.Hap).map sV9))))]))]⟩ : J.Stt) _ (J.fend B (F_Plan_make_room (W)) ⟨p0, a1, a0_0, a0_1, a0_2, a0_3, a0_4, a0_5, r0⟩)
  obtain ⟨s36, hs36, h⟩ := J.bndE h
  refine J.js_whileE (π := Unit) (c := m_Plan_make_room_t2 a0_1) (f := m_Plan_make_room_w3 a1 a0_1 a0_2 a0_4) (Sf := fun (q2 : Unit) (s1 : ((List (Int × ((List Int) × (Int × (Int × ((List (Int × Bool)) × ((Option Int) × (Int × Int)))))))) × ((List Int) × (List J.Hap)))) => (⟨[(sR9 (.ref p0)), (J.refS W.qs (a1 : Int)), sA9, sA9], [(p0, (cI9 W.C_Plan [(("jobs" : St9), (sO9 (J.mlA (Cs0 W) W.qs (s1.1 : (List (Int × ((List Int) × (Int × (Int × ((List (Int × Bool)) × ((Option Int) × (Int × Int)))))))))))), (("frames_there" : St9), (sV9 (a0_1 : Int))), (("turn" : St9), (sV9 (a0_2 : Int))), (("waiting" : St9), (sO9 (cL9 ((s1.2.1 : List Int).map (J.refS W.qs))))), (("lettings" : St9), (sV9 (a0_4 : Int))), (("told" : St9), (sO9 (cL9 ((s1.2.2 : List J.Hap).map sV9))))]))]⟩ : J.Stt)) hs36 (fun _ _ _ _ g => ⟨(), J.le_fgt (sl := [(sR9 (.ref p0)), (J.refS W.qs (a1 : Int)), sA9, sA9]) (cs := [(p0, (cI9 W.C_Plan [(("jobs" : St9), (sO9 (J.mlA (Cs0 W) W.qs ((a0_0, (a0_3, a0_5)).1 : (List (Int × ((List Int) × (Int × (Int × ((List (Int × Bool)) × ((Option Int) × (Int × Int)))))))))))), (("frames_there" : St9), (sV9 (a0_1 : Int))), (("turn" : St9), (sV9 (a0_2 : Int))), (("waiting" : St9), (sO9 (cL9 (((a0_0, (a0_3, a0_5)).2.1 : List Int).map (J.refS W.qs))))), (("lettings" : St9), (sV9 (a0_4 : Int))), (("told" : St9), (sO9 (cL9 (((a0_0, (a0_3, a0_5)).2.2 : List J.Hap).map sV9))))]))]) 1 (.keep (.keep (.drop (.drop .nil)))) rfl _ _ _ _ g⟩) (fun q2 s1 p h => ?_) (fun q2 s1 sY _ h => ?_) (fun q2 => ?_)
  · unfold m_Plan_make_room_t2 at h
    obtain ⟨x9, hx9, h⟩ := J.bndE h
    have h9 := Option.some.inj h
    subst h9
    exact (J.jt_open 0 0 rfl rfl fun p3 => J.jt_leS (J.jt_leS (J.jt_ge (J.je_sum (xs := x9.1) W.l_sum (J.je_lcV (ei := J.refS W.qs) (f := m_Plan_make_room_c0 s1) (el := sV9) (Sf := fun (s4 : Unit) => (⟨[(sR9 (.ref p0)), (J.refS W.qs (a1 : Int)), sA9, sA9], [(p0, (cI9 W.C_Plan [(("jobs" : St9), (sR9 (.ref p3))), (("frames_there" : St9), (sV9 (a0_1 : Int))), (("turn" : St9), (sV9 (a0_2 : Int))), (("waiting" : St9), (sO9 (cL9 ((s1.2.1 : List Int).map (J.refS W.qs))))), (("lettings" : St9), (sV9 (a0_4 : Int))), (("told" : St9), (sO9 (cL9 ((s1.2.2 : List J.Hap).map sV9))))])), (p3, (J.mlA (Cs0 W) W.qs (s1.1 : (List (Int × ((List Int) × (Int × (Int × ((List (Int × Bool)) × ((Option Int) × (Int × Int)))))))))))]⟩ : J.Stt)) (Sb := fun (s4 : Unit) (x6 : Int) => (⟨[(sR9 (.ref p0)), (J.refS W.qs (a1 : Int)), sA9, (J.refS W.qs (x6 : Int))], [(p0, (cI9 W.C_Plan [(("jobs" : St9), (sR9 (.ref p3))), (("frames_there" : St9), (sV9 (a0_1 : Int))), (("turn" : St9), (sV9 (a0_2 : Int))), (("waiting" : St9), (sO9 (cL9 ((s1.2.1 : List Int).map (J.refS W.qs))))), (("lettings" : St9), (sV9 (a0_4 : Int))), (("told" : St9), (sO9 (cL9 ((s1.2.2 : List J.Hap).map sV9))))])), (p3, (J.mlA (Cs0 W) W.qs (s1.1 : (List (Int × ((List Int) × (Int × (Int × ((List (Int × Bool)) × ((Option Int) × (Int × Int)))))))))))]⟩ : J.Stt)) (s0 := ()) (own := [(("job" : St9), 3)]) (ws := [3]) (J.lcM_of hx9).2 (J.lcM_of hx9).1 hN (L2.blkOk_by (N := ["self", "asking", "others", "job"]) (sc := defScope s_Plan_make_room) (by decide +kernel)) (J.ji_mlRf (f := Cs0 W) (xs := (s1.1 : (List (Int × ((List Int) × (Int × (Int × ((List (Int × Bool)) × ((Option Int) × (Int × Int)))))))))) (qs := W.qs) 1 (J.je_fget 0 W.cl_Plan W.na_Plan_jobs (J.je_var 0 rfl) rfl rfl) rfl) (J.le_fgt 2 (.keep (.keep (.drop (.drop .nil)))) rfl) (fun _ => ⟨_, rfl, rfl⟩) (fun _ => J.any_at rfl) (by decide) (fun s4 x6 => fun s91 H91 C91 cl91 fp91 =>  J.inJG hN fun hN => (J.jg_name 3 (hN := hN))) (fun s4 x6 o sZ _ h => by
      unfold m_Plan_make_room_c0 at h
      obtain ⟨x7, hx7, h⟩ := J.bndE h
      obtain ⟨h8, h9⟩ := Prod.mk.inj (Option.some.inj h)
      subst h8
      subst h9
      exact ⟨true, _, (fun s91 H91 C91 cl91 fp91 =>  J.jts_nil), fun _ => ⟨_, _, rfl, (fun s91 H91 C91 cl91 fp91 =>  J.inJE hr hN fun hr hN => (J.je_atRf (f := Cs0 W) (xs := (s1.1 : (List (Int × ((List Int) × (Int × (Int × ((List (Int × Bool)) × ((Option Int) × (Int × Int)))))))))) (qs := W.qs) (n := x6) 1 2 hx7 rfl rfl (NGCs0 W) (J.je_atPart 2 4 rfl rfl (by nofun) (fun _ => rfl) (fun _ => rfl) fun p8 => (J.je_dlen (m := x7.2.2.2.2.1) 3 W.l_len (J.je_fget 2 W.cl_Job W.na_Job_pages_in (J.je_var 3 rfl) rfl rfl) rfl)))), (J.le_fgt 2 (.keep (.keep (.drop (.drop .nil)))) rfl)⟩, nofun⟩)) J.lv_own') (J.je_fget 0 W.cl_Plan W.na_Plan_frames_there (J.je_var 0 rfl) rfl rfl)) (J.le_fold 0 1 0 rfl rfl rfl (by decide) J.mlA_ng)) (J.le_take 1))
  · unfold m_Plan_make_room_w3 at h
    change J.JS _ _ (⟨[(sR9 (.ref p0)), (J.refS W.qs (a1 : Int)), sA9, sA9], [(p0, (cI9 W.C_Plan [(("jobs" : St9), (sO9 (J.mlA (Cs0 W) W.qs (s1.1 : (List (Int × ((List Int) × (Int × (Int × ((List (Int × Bool)) × ((Option Int) × (Int × Int)))))))))))), (("frames_there" : St9), (sV9 (a0_1 : Int))), (("turn" : St9), (sV9 (a0_2 : Int))), (("waiting" : St9), (sO9 (cL9 ((s1.2.1 : List Int).map (J.refS W.qs))))), (("lettings" : St9), (sV9 (a0_4 : Int))), (("told" : St9), (sO9 (cL9 ((s1.2.2 : List J.Hap).map sV9))))]))]⟩ : J.Stt) _ _
    obtain ⟨x10, hx10, h⟩ := J.bndE h
    obtain ⟨x23, hx23, h⟩ := J.bndE h
    refine J.js_setLcV 2 (z := (sV9 (x23.1 : (List (Int × Int))))) (ei := J.refS W.qs) (f := m_Plan_make_room_c1 a1 s1) (el := sV9) (Sf := fun (s11 : Unit) => (⟨[(sR9 (.ref p0)), (J.refS W.qs (a1 : Int)), sA9, sA9], [(p0, (cI9 W.C_Plan [(("jobs" : St9), (sO9 (J.mlA (Cs0 W) W.qs (s1.1 : (List (Int × ((List Int) × (Int × (Int × ((List (Int × Bool)) × ((Option Int) × (Int × Int)))))))))))), (("frames_there" : St9), (sV9 (a0_1 : Int))), (("turn" : St9), (sV9 (a0_2 : Int))), (("waiting" : St9), (sO9 (cL9 ((s1.2.1 : List Int).map (J.refS W.qs))))), (("lettings" : St9), (sV9 (a0_4 : Int))), (("told" : St9), (sO9 (cL9 ((s1.2.2 : List J.Hap).map sV9))))]))]⟩ : J.Stt)) (Sb := fun (s11 : Unit) (x13 : Int) => (⟨[(sR9 (.ref p0)), (J.refS W.qs (a1 : Int)), sA9, (J.refS W.qs (x13 : Int))], [(p0, (cI9 W.C_Plan [(("jobs" : St9), (sO9 (J.mlA (Cs0 W) W.qs (s1.1 : (List (Int × ((List Int) × (Int × (Int × ((List (Int × Bool)) × ((Option Int) × (Int × Int)))))))))))), (("frames_there" : St9), (sV9 (a0_1 : Int))), (("turn" : St9), (sV9 (a0_2 : Int))), (("waiting" : St9), (sO9 (cL9 ((s1.2.1 : List Int).map (J.refS W.qs))))), (("lettings" : St9), (sV9 (a0_4 : Int))), (("told" : St9), (sO9 (cL9 ((s1.2.2 : List J.Hap).map sV9))))]))]⟩ : J.Stt)) (s0 := ()) (own := [(("job" : St9), 3)]) (ws := [3]) (J.lcM_of hx23).2 (J.lcM_of hx23).1 hN (L2.blkOk_by (N := ["self", "asking", "others", "job"]) (sc := defScope s_Plan_make_room) (by decide +kernel)) (J.ji_refs (ks := x10) (qs := W.qs) (ok := fun _ => True) (J.je_mth0 (fr := F_Plan_on_now W) 0 W.cl_Plan W.m_Plan_on_now (ok_Plan_on_now W) hr (by decide) W.b_Plan_on_now (J.je_var 0 rfl) rfl rfl (g := (⟨p0, s1.1, a0_1, a0_2, s1.2.1, a0_4, s1.2.2, x10⟩ : G_Plan_on_now)) hx10 rfl (.cons 0 rfl (by nofun) .nil) (.cons 0 rfl .nil) (hG := fun G e => trivial)) J.lv_refsO (fun _ _ => J.lv_refsO)) (J.le_fgt 1 (.keep (.keep (.drop (.drop .nil)))) rfl) (fun _ => trivial) (fun _ => J.any_at rfl) (by decide) (fun s11 x13 => fun s91 H91 C91 cl91 fp91 =>  J.inJG hN fun hN => (J.jg_name 3 (hN := hN))) (fun s11 x13 o sZ _ h => by
      unfold m_Plan_make_room_c1 at h
      obtain ⟨x15, hx15, h⟩ := J.bndE h
      obtain ⟨x17, hx17, h⟩ := J.bndE h
      by_cases hp : (decide (x15.1 ≠ x17.1)) = true
      · replace h := J.ifT hp h
        obtain ⟨x19, hx19, h⟩ := J.bndE h
        obtain ⟨x20, hx20, h⟩ := J.bndE h
        obtain ⟨x22, hx22, h⟩ := J.bndE h
        obtain ⟨h8, h9⟩ := Prod.mk.inj (Option.some.inj h)
        subst h8
        subst h9
        exact ⟨true, _, (fun s91 H91 C91 cl91 fp91 =>  J.inJTs hr hN fun hr hN => J.jts_one (J.jt_eq (J.jt_ne' (t := (x15.1 : Int)) (r := (x17.1 : Int)) hr (J.je_atPart 0 0 rfl rfl J.mlA_ng (fun _ => rfl) (fun _ => rfl) fun p14 => (J.je_atRf (f := Cs0 W) (xs := (s1.1 : (List (Int × ((List Int) × (Int × (Int × ((List (Int × Bool)) × ((Option Int) × (Int × Int)))))))))) (qs := W.qs) (n := x13) 1 2 hx15 rfl rfl (NGCs0 W) (J.je_fget 2 W.cl_Job W.na_Job_number (J.je_var 3 rfl) rfl rfl))) (J.je_atPart 0 0 rfl rfl J.mlA_ng (fun _ => rfl) (fun _ => rfl) fun p16 => (J.je_atRf (f := Cs0 W) (xs := (s1.1 : (List (Int × ((List Int) × (Int × (Int × ((List (Int × Bool)) × ((Option Int) × (Int × Int)))))))))) (qs := W.qs) (n := a1) 1 2 hx17 rfl rfl (NGCs0 W) (J.je_fget 2 W.cl_Job W.na_Job_number (J.je_var 1 rfl) rfl rfl))) J.dv_val J.dv_val) hp)), fun _ => ⟨_, _, rfl, (fun s91 H91 C91 cl91 fp91 =>  J.inJE hr hN fun hr hN => (J.je_tup (t := ((x20, x22.1) : (Int × Int))) (J.ja_cons (J.je_atPart 0 0 rfl rfl J.mlA_ng (fun _ => rfl) (fun _ => rfl) fun p18 => (J.je_same (r := (x20 : Int)) (J.je_atRf (f := Cs0 W) (xs := (s1.1 : (List (Int × ((List Int) × (Int × (Int × ((List (Int × Bool)) × ((Option Int) × (Int × Int)))))))))) (qs := W.qs) (n := x13) 1 2 hx19 rfl rfl (NGCs0 W) (J.je_fget 2 W.cl_Job W.na_Job_on_since (J.je_var 3 rfl) rfl rfl)) (by rw [hx20]; rfl))) (J.ja_cons (J.je_atPart 0 0 rfl rfl J.mlA_ng (fun _ => rfl) (fun _ => rfl) fun p21 => (J.je_atRf (f := Cs0 W) (xs := (s1.1 : (List (Int × ((List Int) × (Int × (Int × ((List (Int × Bool)) × ((Option Int) × (Int × Int)))))))))) (qs := W.qs) (n := x13) 1 2 hx22 rfl rfl (NGCs0 W) (J.je_fget 2 W.cl_Job W.na_Job_number (J.je_var 3 rfl) rfl rfl))) J.ja_nil)) (J.SlDs.cons J.sld_val (J.SlDs.cons J.sld_val J.SlDs.nil)) rfl (Nat.le_of_ble_eq_true rfl))), (J.le_fgt 1 (.keep (.keep (.drop (.drop .nil)))) rfl)⟩, nofun⟩
      · rw [Bool.not_eq_true] at hp
        replace h := J.ifF hp h
        obtain ⟨h8, h9⟩ := Prod.mk.inj (Option.some.inj h)
        subst h8
        subst h9
        exact ⟨false, _, (fun s91 H91 C91 cl91 fp91 =>  J.inJTs hr hN fun hr hN => J.jts_one (J.jt_eq (J.jt_ne' (t := (x15.1 : Int)) (r := (x17.1 : Int)) hr (J.je_atPart 0 0 rfl rfl J.mlA_ng (fun _ => rfl) (fun _ => rfl) fun p14 => (J.je_atRf (f := Cs0 W) (xs := (s1.1 : (List (Int × ((List Int) × (Int × (Int × ((List (Int × Bool)) × ((Option Int) × (Int × Int)))))))))) (qs := W.qs) (n := x13) 1 2 hx15 rfl rfl (NGCs0 W) (J.je_fget 2 W.cl_Job W.na_Job_number (J.je_var 3 rfl) rfl rfl))) (J.je_atPart 0 0 rfl rfl J.mlA_ng (fun _ => rfl) (fun _ => rfl) fun p16 => (J.je_atRf (f := Cs0 W) (xs := (s1.1 : (List (Int × ((List Int) × (Int × (Int × ((List (Int × Bool)) × ((Option Int) × (Int × Int)))))))))) (qs := W.qs) (n := a1) 1 2 hx17 rfl rfl (NGCs0 W) (J.je_fget 2 W.cl_Job W.na_Job_number (J.je_var 1 rfl) rfl rfl))) J.dv_val J.dv_val) hp)), nofun, fun _ => ⟨rfl, (J.le_fgt 1 (.keep (.keep (.drop (.drop .nil)))) rfl)⟩⟩) (fun h => h.frz (.own (J.fz_val _)) fun G d => .val d) ?_
    change J.JS _ _ (⟨[(sR9 (.ref p0)), (J.refS W.qs (a1 : Int)), (sV9 (x23.1 : (List (Int × Int)))), sA9], [(p0, (cI9 W.C_Plan [(("jobs" : St9), (sO9 (J.mlA (Cs0 W) W.qs (s1.1 : (List (Int × ((List Int) × (Int × (Int × ((List (Int × Bool)) × ((Option Int) × (Int × Int)))))))))))), (("frames_there" : St9), (sV9 (a0_1 : Int))), (("turn" : St9), (sV9 (a0_2 : Int))), (("waiting" : St9), (sO9 (cL9 ((s1.2.1 : List Int).map (J.refS W.qs))))), (("lettings" : St9), (sV9 (a0_4 : Int))), (("told" : St9), (sO9 (cL9 ((s1.2.2 : List J.Hap).map sV9))))]))]⟩ : J.Stt) _ _
    refine J.js_open 0 0 rfl rfl fun p24 => ?_
    change J.JS _ _ (⟨[(sR9 (.ref p0)), (J.refS W.qs (a1 : Int)), (sV9 (x23.1 : (List (Int × Int)))), sA9], [(p0, (cI9 W.C_Plan [(("jobs" : St9), (sR9 (.ref p24))), (("frames_there" : St9), (sV9 (a0_1 : Int))), (("turn" : St9), (sV9 (a0_2 : Int))), (("waiting" : St9), (sO9 (cL9 ((s1.2.1 : List Int).map (J.refS W.qs))))), (("lettings" : St9), (sV9 (a0_4 : Int))), (("told" : St9), (sO9 (cL9 ((s1.2.2 : List J.Hap).map sV9))))])), (p24, (J.mlA (Cs0 W) W.qs (s1.1 : (List (Int × ((List Int) × (Int × (Int × ((List (Int × Bool)) × ((Option Int) × (Int × Int)))))))))))]⟩ : J.Stt) _ _
    obtain ⟨x25, hx25, h⟩ := J.bndE h
    obtain ⟨x26, hx26, h⟩ := J.bndE h
    refine J.js_set (hN := hN) 3 (J.je_ixRf (ks := (J.rng 0 (s1.1).length)) (qs := W.qs) (J.je_fget 0 W.cl_Plan W.na_Plan_jobs (J.je_var 0 rfl) rfl rfl) (J.je_tpix (t := (x25 : (Int × Int))) (r := (x25.2 : Int)) (J.je_maxG (xs := x23.1) hr W.l_max (J.je_var 2 rfl) J.lv_val hx25) J.je_int rfl rfl) (J.lv_mlRf (f := Cs0 W) (xs := (s1.1 : (List (Int × ((List Int) × (Int × (Int × ((List (Int × Bool)) × ((Option Int) × (Int × Int)))))))))) (qs := W.qs) 1 rfl) hx26) ?_
    refine J.js_fold 0 1 0 1 rfl rfl rfl (by decide) J.mlA_ng ?_
    change J.JS _ _ (⟨[(sR9 (.ref p0)), (J.refS W.qs (a1 : Int)), (sV9 (x23.1 : (List (Int × Int)))), (J.refS W.qs (x26 : Int))], [(p0, (cI9 W.C_Plan [(("jobs" : St9), (sO9 (J.mlA (Cs0 W) W.qs (s1.1 : (List (Int × ((List Int) × (Int × (Int × ((List (Int × Bool)) × ((Option Int) × (Int × Int)))))))))))), (("frames_there" : St9), (sV9 (a0_1 : Int))), (("turn" : St9), (sV9 (a0_2 : Int))), (("waiting" : St9), (sO9 (cL9 ((s1.2.1 : List Int).map (J.refS W.qs))))), (("lettings" : St9), (sV9 (a0_4 : Int))), (("told" : St9), (sO9 (cL9 ((s1.2.2 : List J.Hap).map sV9))))]))]⟩ : J.Stt) _ _
    refine J.js_open 0 0 rfl rfl fun p27 => ?_
    change J.JS _ _ (⟨[(sR9 (.ref p0)), (J.refS W.qs (a1 : Int)), (sV9 (x23.1 : (List (Int × Int)))), (J.refS W.qs (x26 : Int))], [(p0, (cI9 W.C_Plan [(("jobs" : St9), (sR9 (.ref p27))), (("frames_there" : St9), (sV9 (a0_1 : Int))), (("turn" : St9), (sV9 (a0_2 : Int))), (("waiting" : St9), (sO9 (cL9 ((s1.2.1 : List Int).map (J.refS W.qs))))), (("lettings" : St9), (sV9 (a0_4 : Int))), (("told" : St9), (sO9 (cL9 ((s1.2.2 : List J.Hap).map sV9))))])), (p27, (J.mlA (Cs0 W) W.qs (s1.1 : (List (Int × ((List Int) × (Int × (Int × ((List (Int × Bool)) × ((Option Int) × (Int × Int)))))))))))]⟩ : J.Stt) _ _
    obtain ⟨x28, hx28, h⟩ := J.bndE h
    have gx28 := J.gxN_of hx28
    refine J.js_le (J.le_openRf (f := Cs0 W) (xs := (s1.1 : (List (Int × ((List Int) × (Int × (Int × ((List (Int × Bool)) × ((Option Int) × (Int × Int)))))))))) (qs := W.qs) (n := x26) 1 gx28.1 gx28.2 rfl) ?_
    change J.JS _ _ (⟨[(sR9 (.ref p0)), (J.refS W.qs (a1 : Int)), (sV9 (x23.1 : (List (Int × Int)))), (sR9 (.ref (W.qs.getD (x26).toNat 0)))], [(p0, (cI9 W.C_Plan [(("jobs" : St9), (sR9 (.ref p27))), (("frames_there" : St9), (sV9 (a0_1 : Int))), (("turn" : St9), (sV9 (a0_2 : Int))), (("waiting" : St9), (sO9 (cL9 ((s1.2.1 : List Int).map (J.refS W.qs))))), (("lettings" : St9), (sV9 (a0_4 : Int))), (("told" : St9), (sO9 (cL9 ((s1.2.2 : List J.Hap).map sV9))))])), (p27, (J.mlAH (Cs0 W) W.qs (s1.1 : (List (Int × ((List Int) × (Int × (Int × ((List (Int × Bool)) × ((Option Int) × (Int × Int))))))))) (x26).toNat (W.qs.getD (x26).toNat 0))), ((W.qs.getD (x26).toNat 0), (cI9 W.C_Job [(("number" : St9), (sV9 (x28.1 : Int))), (("trace" : St9), (sV9 (x28.2.1 : (List Int)))), (("window" : St9), (sV9 (x28.2.2.1 : Int))), (("at" : St9), (sV9 (x28.2.2.2.1 : Int))), (("pages_in" : St9), (sO9 (cD9 (J.dks (x28.2.2.2.2.1 : List (Int × Bool))) (J.dss (x28.2.2.2.2.1 : List (Int × Bool)))))), (("on_since" : St9), (sV9 (x28.2.2.2.2.2.1 : (Option Int)))), (("faults" : St9), (sO9 (cD9 [Sum.inr ("own" : St9), Sum.inr ("back" : St9)] [(sV9 (x28.2.2.2.2.2.2.1 : Int)), (sV9 (x28.2.2.2.2.2.2.2 : Int))])))]))]⟩ : J.Stt) _ _
    obtain ⟨x29, hx29, h⟩ := J.bndE h
    refine J.js_expr (J.je_mth0 (fr := F_Job_leave W) 2 W.cl_Job W.m_Job_leave (ok_Job_leave W) hr (by decide) W.b_Job_leave (J.je_var 3 rfl) rfl rfl (g := (⟨(W.qs.getD (x26).toNat 0), x28.1, x28.2.1, x28.2.2.1, x28.2.2.2.1, x28.2.2.2.2.1, x28.2.2.2.2.2.1, x28.2.2.2.2.2.2.1, x28.2.2.2.2.2.2.2, x29⟩ : G_Job_leave)) hx29 rfl (.cons 2 rfl (by nofun) .nil) (.cons 2 rfl .nil) (hG := fun G e => trivial)) ?_
    change J.JS _ _ (⟨[(sR9 (.ref p0)), (J.refS W.qs (a1 : Int)), (sV9 (x23.1 : (List (Int × Int)))), (sR9 (.ref (W.qs.getD (x26).toNat 0)))], [(p0, (cI9 W.C_Plan [(("jobs" : St9), (sR9 (.ref p27))), (("frames_there" : St9), (sV9 (a0_1 : Int))), (("turn" : St9), (sV9 (a0_2 : Int))), (("waiting" : St9), (sO9 (cL9 ((s1.2.1 : List Int).map (J.refS W.qs))))), (("lettings" : St9), (sV9 (a0_4 : Int))), (("told" : St9), (sO9 (cL9 ((s1.2.2 : List J.Hap).map sV9))))])), (p27, (J.mlAH (Cs0 W) W.qs (s1.1 : (List (Int × ((List Int) × (Int × (Int × ((List (Int × Bool)) × ((Option Int) × (Int × Int))))))))) (x26).toNat (W.qs.getD (x26).toNat 0))), ((W.qs.getD (x26).toNat 0), (cI9 W.C_Job [(("number" : St9), (sV9 (x28.1 : Int))), (("trace" : St9), (sV9 (x28.2.1 : (List Int)))), (("window" : St9), (sV9 (x28.2.2.1 : Int))), (("at" : St9), (sV9 (x28.2.2.2.1 : Int))), (("pages_in" : St9), (sO9 (cD9 (J.dks (x29.1 : List (Int × Bool))) (J.dss (x29.1 : List (Int × Bool)))))), (("on_since" : St9), (sV9 (x29.2 : (Option Int)))), (("faults" : St9), (sO9 (cD9 [Sum.inr ("own" : St9), Sum.inr ("back" : St9)] [(sV9 (x28.2.2.2.2.2.2.1 : Int)), (sV9 (x28.2.2.2.2.2.2.2 : Int))])))]))]⟩ : J.Stt) _ _
    refine J.js_le (J.le_closeRf (f := Cs0 W) (xs := (s1.1 : (List (Int × ((List Int) × (Int × (Int × ((List (Int × Bool)) × ((Option Int) × (Int × Int)))))))))) (qs := W.qs) (n := x26) (x := ((x28.1, (x28.2.1, (x28.2.2.1, (x28.2.2.2.1, (x29.1, (x29.2, (x28.2.2.2.2.2.2.1, x28.2.2.2.2.2.2.2))))))) : (Int × ((List Int) × (Int × (Int × ((List (Int × Bool)) × ((Option Int) × (Int × Int))))))))) 1 2 2 gx28.1 gx28.2 rfl rfl (by decide) (NGCs0 W)) ?_
    change J.JS _ _ (⟨[(sR9 (.ref p0)), (J.refS W.qs (a1 : Int)), (sV9 (x23.1 : (List (Int × Int)))), (J.refS W.qs (x26 : Int))], [(p0, (cI9 W.C_Plan [(("jobs" : St9), (sR9 (.ref p27))), (("frames_there" : St9), (sV9 (a0_1 : Int))), (("turn" : St9), (sV9 (a0_2 : Int))), (("waiting" : St9), (sO9 (cL9 ((s1.2.1 : List Int).map (J.refS W.qs))))), (("lettings" : St9), (sV9 (a0_4 : Int))), (("told" : St9), (sO9 (cL9 ((s1.2.2 : List J.Hap).map sV9))))])), (p27, (J.mlA (Cs0 W) W.qs ((List.set s1.1 (x26).toNat ((x28.1, (x28.2.1, (x28.2.2.1, (x28.2.2.2.1, (x29.1, (x29.2, (x28.2.2.2.2.2.2.1, x28.2.2.2.2.2.2.2))))))) : (Int × ((List Int) × (Int × (Int × ((List (Int × Bool)) × ((Option Int) × (Int × Int))))))))) : (List (Int × ((List Int) × (Int × (Int × ((List (Int × Bool)) × ((Option Int) × (Int × Int)))))))))))]⟩ : J.Stt) _ _
    refine J.js_fold 0 1 0 1 rfl rfl rfl (by decide) J.mlA_ng ?_
    change J.JS _ _ (⟨[(sR9 (.ref p0)), (J.refS W.qs (a1 : Int)), (sV9 (x23.1 : (List (Int × Int)))), (J.refS W.qs (x26 : Int))], [(p0, (cI9 W.C_Plan [(("jobs" : St9), (sO9 (J.mlA (Cs0 W) W.qs ((List.set s1.1 (x26).toNat ((x28.1, (x28.2.1, (x28.2.2.1, (x28.2.2.2.1, (x29.1, (x29.2, (x28.2.2.2.2.2.2.1, x28.2.2.2.2.2.2.2))))))) : (Int × ((List Int) × (Int × (Int × ((List (Int × Bool)) × ((Option Int) × (Int × Int))))))))) : (List (Int × ((List Int) × (Int × (Int × ((List (Int × Bool)) × ((Option Int) × (Int × Int)))))))))))), (("frames_there" : St9), (sV9 (a0_1 : Int))), (("turn" : St9), (sV9 (a0_2 : Int))), (("waiting" : St9), (sO9 (cL9 ((s1.2.1 : List Int).map (J.refS W.qs))))), (("lettings" : St9), (sV9 (a0_4 : Int))), (("told" : St9), (sO9 (cL9 ((s1.2.2 : List J.Hap).map sV9))))]))]⟩ : J.Stt) _ _
    refine J.js_open 0 3 rfl rfl fun p30 => ?_
    change J.JS _ _ (⟨[(sR9 (.ref p0)), (J.refS W.qs (a1 : Int)), (sV9 (x23.1 : (List (Int × Int)))), (J.refS W.qs (x26 : Int))], [(p0, (cI9 W.C_Plan [(("jobs" : St9), (sO9 (J.mlA (Cs0 W) W.qs ((List.set s1.1 (x26).toNat ((x28.1, (x28.2.1, (x28.2.2.1, (x28.2.2.2.1, (x29.1, (x29.2, (x28.2.2.2.2.2.2.1, x28.2.2.2.2.2.2.2))))))) : (Int × ((List Int) × (Int × (Int × ((List (Int × Bool)) × ((Option Int) × (Int × Int))))))))) : (List (Int × ((List Int) × (Int × (Int × ((List (Int × Bool)) × ((Option Int) × (Int × Int)))))))))))), (("frames_there" : St9), (sV9 (a0_1 : Int))), (("turn" : St9), (sV9 (a0_2 : Int))), (("waiting" : St9), (sR9 (.ref p30))), (("lettings" : St9), (sV9 (a0_4 : Int))), (("told" : St9), (sO9 (cL9 ((s1.2.2 : List J.Hap).map sV9))))])), (p30, (cL9 ((s1.2.1 : List Int).map (J.refS W.qs))))]⟩ : J.Stt) _ _
    obtain ⟨x31, hx31, h⟩ := J.bndE h
    refine J.js_expr (J.je_appR (ks := s1.2.1) (n := x26) (qs := W.qs) 1 (J.je_fget 0 W.cl_Plan W.na_Plan_waiting (J.je_var 0 rfl) rfl rfl) rfl (J.je_var 3 rfl) rfl hx31) ?_
    refine J.js_fold 0 1 3 1 rfl rfl rfl (by decide) (by nofun) ?_
    change J.JS _ _ (⟨[(sR9 (.ref p0)), (J.refS W.qs (a1 : Int)), (sV9 (x23.1 : (List (Int × Int)))), (J.refS W.qs (x26 : Int))], [(p0, (cI9 W.C_Plan [(("jobs" : St9), (sO9 (J.mlA (Cs0 W) W.qs ((List.set s1.1 (x26).toNat ((x28.1, (x28.2.1, (x28.2.2.1, (x28.2.2.2.1, (x29.1, (x29.2, (x28.2.2.2.2.2.2.1, x28.2.2.2.2.2.2.2))))))) : (Int × ((List Int) × (Int × (Int × ((List (Int × Bool)) × ((Option Int) × (Int × Int))))))))) : (List (Int × ((List Int) × (Int × (Int × ((List (Int × Bool)) × ((Option Int) × (Int × Int)))))))))))), (("frames_there" : St9), (sV9 (a0_1 : Int))), (("turn" : St9), (sV9 (a0_2 : Int))), (("waiting" : St9), (sO9 (cL9 ((x31 : List Int).map (J.refS W.qs))))), (("lettings" : St9), (sV9 (a0_4 : Int))), (("told" : St9), (sO9 (cL9 ((s1.2.2 : List J.Hap).map sV9))))]))]⟩ : J.Stt) _ _
    refine J.js_open 0 5 rfl rfl fun p32 => ?_
    change J.JS _ _ (⟨[(sR9 (.ref p0)), (J.refS W.qs (a1 : Int)), (sV9 (x23.1 : (List (Int × Int)))), (J.refS W.qs (x26 : Int))], [(p0, (cI9 W.C_Plan [(("jobs" : St9), (sO9 (J.mlA (Cs0 W) W.qs ((List.set s1.1 (x26).toNat ((x28.1, (x28.2.1, (x28.2.2.1, (x28.2.2.2.1, (x29.1, (x29.2, (x28.2.2.2.2.2.2.1, x28.2.2.2.2.2.2.2))))))) : (Int × ((List Int) × (Int × (Int × ((List (Int × Bool)) × ((Option Int) × (Int × Int))))))))) : (List (Int × ((List Int) × (Int × (Int × ((List (Int × Bool)) × ((Option Int) × (Int × Int)))))))))))), (("frames_there" : St9), (sV9 (a0_1 : Int))), (("turn" : St9), (sV9 (a0_2 : Int))), (("waiting" : St9), (sO9 (cL9 ((x31 : List Int).map (J.refS W.qs))))), (("lettings" : St9), (sV9 (a0_4 : Int))), (("told" : St9), (sR9 (.ref p32)))])), (p32, (cL9 ((s1.2.2 : List J.Hap).map sV9)))]⟩ : J.Stt) _ _
    obtain ⟨x34, hx34, h⟩ := J.bndE h
    obtain ⟨x35, hx35, h⟩ := J.bndE h
    refine J.js_expr (J.je_appG (xs := s1.2.2) (t := ((J.Hap.two ((("off" : St9), x34.1) : (St9 × Int)).1 ((("off" : St9), x34.1) : (St9 × Int)).2) : J.Hap)) 1 (J.je_fget 0 W.cl_Plan W.na_Plan_told (J.je_var 0 rfl) rfl rfl) rfl (J.je_same (t := ((("off" : St9), x34.1) : (St9 × Int))) (r := (J.Hap.two ((("off" : St9), x34.1) : (St9 × Int)).1 ((("off" : St9), x34.1) : (St9 × Int)).2)) (J.je_tup (t := ((("off" : St9), x34.1) : (St9 × Int))) (J.ja_cons J.je_str (J.ja_cons (J.je_atPart 0 0 rfl rfl J.mlA_ng (fun _ => rfl) (fun _ => rfl) fun p33 => (J.je_atRf (f := Cs0 W) (xs := ((List.set s1.1 (x26).toNat ((x28.1, (x28.2.1, (x28.2.2.1, (x28.2.2.2.1, (x29.1, (x29.2, (x28.2.2.2.2.2.2.1, x28.2.2.2.2.2.2.2))))))) : (Int × ((List Int) × (Int × (Int × ((List (Int × Bool)) × ((Option Int) × (Int × Int))))))))) : (List (Int × ((List Int) × (Int × (Int × ((List (Int × Bool)) × ((Option Int) × (Int × Int)))))))))) (qs := W.qs) (n := x26) 2 3 hx34 rfl rfl (NGCs0 W) (J.je_fget 3 W.cl_Job W.na_Job_number (J.je_var 3 rfl) rfl rfl))) J.ja_nil)) (J.SlDs.cons J.sld_val (J.SlDs.cons J.sld_val J.SlDs.nil)) rfl (Nat.le_of_ble_eq_true rfl))) rfl hx35) ?_
    refine J.js_fold 0 1 5 1 rfl rfl rfl (by decide) (by nofun) ?_
    change J.JS _ _ (⟨[(sR9 (.ref p0)), (J.refS W.qs (a1 : Int)), (sV9 (x23.1 : (List (Int × Int)))), (J.refS W.qs (x26 : Int))], [(p0, (cI9 W.C_Plan [(("jobs" : St9), (sO9 (J.mlA (Cs0 W) W.qs ((List.set s1.1 (x26).toNat ((x28.1, (x28.2.1, (x28.2.2.1, (x28.2.2.2.1, (x29.1, (x29.2, (x28.2.2.2.2.2.2.1, x28.2.2.2.2.2.2.2))))))) : (Int × ((List Int) × (Int × (Int × ((List (Int × Bool)) × ((Option Int) × (Int × Int))))))))) : (List (Int × ((List Int) × (Int × (Int × ((List (Int × Bool)) × ((Option Int) × (Int × Int)))))))))))), (("frames_there" : St9), (sV9 (a0_1 : Int))), (("turn" : St9), (sV9 (a0_2 : Int))), (("waiting" : St9), (sO9 (cL9 ((x31 : List Int).map (J.refS W.qs))))), (("lettings" : St9), (sV9 (a0_4 : Int))), (("told" : St9), (sO9 (cL9 ((x35 : List J.Hap).map sV9))))]))]⟩ : J.Stt) _ _
    have h9 := Option.some.inj h
    subst h9
    exact J.js_nil fun T tv σ H g => ⟨(), J.le_fgt (sl := [(sR9 (.ref p0)), (J.refS W.qs (a1 : Int)), sA9, sA9]) (cs := [(p0, (cI9 W.C_Plan [(("jobs" : St9), (sO9 (J.mlA (Cs0 W) W.qs (((List.set s1.1 (x26).toNat ((x28.1, (x28.2.1, (x28.2.2.1, (x28.2.2.2.1, (x29.1, (x29.2, (x28.2.2.2.2.2.2.1, x28.2.2.2.2.2.2.2))))))) : (Int × ((List Int) × (Int × (Int × ((List (Int × Bool)) × ((Option Int) × (Int × Int))))))))), (x31, x35)).1 : (List (Int × ((List Int) × (Int × (Int × ((List (Int × Bool)) × ((Option Int) × (Int × Int)))))))))))), (("frames_there" : St9), (sV9 (a0_1 : Int))), (("turn" : St9), (sV9 (a0_2 : Int))), (("waiting" : St9), (sO9 (cL9 ((((List.set s1.1 (x26).toNat ((x28.1, (x28.2.1, (x28.2.2.1, (x28.2.2.2.1, (x29.1, (x29.2, (x28.2.2.2.2.2.2.1, x28.2.2.2.2.2.2.2))))))) : (Int × ((List Int) × (Int × (Int × ((List (Int × Bool)) × ((Option Int) × (Int × Int))))))))), (x31, x35)).2.1 : List Int).map (J.refS W.qs))))), (("lettings" : St9), (sV9 (a0_4 : Int))), (("told" : St9), (sO9 (cL9 ((((List.set s1.1 (x26).toNat ((x28.1, (x28.2.1, (x28.2.2.1, (x28.2.2.2.1, (x29.1, (x29.2, (x28.2.2.2.2.2.2.1, x28.2.2.2.2.2.2.2))))))) : (Int × ((List Int) × (Int × (Int × ((List (Int × Bool)) × ((Option Int) × (Int × Int))))))))), (x31, x35)).2.2 : List J.Hap).map sV9))))]))]) 1 (.keep (.keep (.drop (.drop .nil)))) rfl _ _ _ _ g⟩
  change J.JS _ _ (⟨[(sR9 (.ref p0)), (J.refS W.qs (a1 : Int)), sA9, sA9], [(p0, (cI9 W.C_Plan [(("jobs" : St9), (sO9 (J.mlA (Cs0 W) W.qs (s36.1 : (List (Int × ((List Int) × (Int × (Int × ((List (Int × Bool)) × ((Option Int) × (Int × Int)))))))))))), (("frames_there" : St9), (sV9 (a0_1 : Int))), (("turn" : St9), (sV9 (a0_2 : Int))), (("waiting" : St9), (sO9 (cL9 ((s36.2.1 : List Int).map (J.refS W.qs))))), (("lettings" : St9), (sV9 (a0_4 : Int))), (("told" : St9), (sO9 (cL9 ((s36.2.2 : List J.Hap).map sV9))))]))]⟩ : J.Stt) _ _
  have h9 := Option.some.inj h
  subst h9
  exact J.js_fin 1 rfl rfl
structure G_Plan_request where
  p0 : PySem.Addr
  a1 : Int
  a0_0 : (List (Int × ((List Int) × (Int × (Int × ((List (Int × Bool)) × ((Option Int) × (Int × Int))))))))
  a0_1 : Int
  a0_2 : Int
  a0_3 : (List Int)
  a0_4 : Int
  a0_5 : (List J.Hap)
  out : ((List (Int × ((List Int) × (Int × (Int × ((List (Int × Bool)) × ((Option Int) × (Int × Int)))))))) × ((List Int) × (List J.Hap)))
abbrev R_Plan_request {K : PySem.W.Frag} {mg : Str → Option Value} (W : Wd K mg) (r : ((List (Int × ((List Int) × (Int × (Int × ((List (Int × Bool)) × ((Option Int) × (Int × Int)))))))) × ((List Int) × (List J.Hap)))) : J.Slot := (sR9 .non)
abbrev C_Plan_request {K : PySem.W.Frag} {mg : Str → Option Value} (W : Wd K mg) (p0 : PySem.Addr) (a1 : Int) (a0_0 : (List (Int × ((List Int) × (Int × (Int × ((List (Int × Bool)) × ((Option Int) × (Int × Int))))))))) (a0_1 : Int) (a0_2 : Int) (a0_3 : (List Int)) (a0_4 : Int) (a0_5 : (List J.Hap)) (r : ((List (Int × ((List Int) × (Int × (Int × ((List (Int × Bool)) × ((Option Int) × (Int × Int)))))))) × ((List Int) × (List J.Hap)))) : List (PySem.Addr × J.Cel) := [(p0, (cI9 W.C_Plan [(("jobs" : St9), (sO9 (J.mlA (Cs0 W) W.qs (r.1 : (List (Int × ((List Int) × (Int × (Int × ((List (Int × Bool)) × ((Option Int) × (Int × Int)))))))))))), (("frames_there" : St9), (sV9 (a0_1 : Int))), (("turn" : St9), (sV9 (a0_2 : Int))), (("waiting" : St9), (sO9 (cL9 ((r.2.1 : List Int).map (J.refS W.qs))))), (("lettings" : St9), (sV9 (a0_4 : Int))), (("told" : St9), (sO9 (cL9 ((r.2.2 : List J.Hap).map sV9))))]))]
abbrev A_Plan_request {K : PySem.W.Frag} {mg : Str → Option Value} (W : Wd K mg) (p0 : PySem.Addr) (a1 : Int) (a0_0 : (List (Int × ((List Int) × (Int × (Int × ((List (Int × Bool)) × ((Option Int) × (Int × Int))))))))) (a0_1 : Int) (a0_2 : Int) (a0_3 : (List Int)) (a0_4 : Int) (a0_5 : (List J.Hap)) : List J.Slot := [(sR9 (.ref p0)), (J.refS W.qs (a1 : Int))]
abbrev D_Plan_request {K : PySem.W.Frag} {mg : Str → Option Value} (W : Wd K mg) (p0 : PySem.Addr) (a1 : Int) (a0_0 : (List (Int × ((List Int) × (Int × (Int × ((List (Int × Bool)) × ((Option Int) × (Int × Int))))))))) (a0_1 : Int) (a0_2 : Int) (a0_3 : (List Int)) (a0_4 : Int) (a0_5 : (List J.Hap)) : List (PySem.Addr × J.Cel) := [(p0, (cI9 W.C_Plan [(("jobs" : St9), (sO9 (J.mlA (Cs0 W) W.qs (a0_0 : (List (Int × ((List Int) × (Int × (Int × ((List (Int × Bool)) × ((Option Int) × (Int × Int)))))))))))), (("frames_there" : St9), (sV9 (a0_1 : Int))), (("turn" : St9), (sV9 (a0_2 : Int))), (("waiting" : St9), (sO9 (cL9 ((a0_3 : List Int).map (J.refS W.qs))))), (("lettings" : St9), (sV9 (a0_4 : Int))), (("told" : St9), (sO9 (cL9 ((a0_5 : List J.Hap).map sV9))))]))]
def F_Plan_request {K : PySem.W.Frag} {mg : Str → Option Value} (W : Wd K mg)  : J.FS G_Plan_request where
  pre := fun g => m_Plan_request g.a1 g.a0_0 g.a0_1 g.a0_2 g.a0_3 g.a0_4 g.a0_5 = some g.out
  preG := fun _ _ => True
  args := fun g => A_Plan_request W g.p0 g.a1 g.a0_0 g.a0_1 g.a0_2 g.a0_3 g.a0_4 g.a0_5
  cells := fun g => D_Plan_request W g.p0 g.a1 g.a0_0 g.a0_1 g.a0_2 g.a0_3 g.a0_4 g.a0_5
  res := fun g => R_Plan_request W g.out
  cells' := fun g => C_Plan_request W g.p0 g.a1 g.a0_0 g.a0_1 g.a0_2 g.a0_3 g.a0_4 g.a0_5 g.out
theorem ok_Plan_request (W : Wd K mg) : FnOk P w K mg base CX0 4 W.a_Plan_request W.d_Plan_request ["self", "job"] (F_Plan_request (W)).sp := by
  refine J.fn_okD (F_Plan_request (W)) W.F_Plan_request sc_Plan_request (fun g => rfl) (fun g => by intro s hs; simp only [F_Plan_request, List.mem_cons, List.not_mem_nil, or_false] at hs; rcases hs with rfl | rfl <;> first | rfl | exact J.xsl_plain) (fun cdv A outer s H E hr B g h hG => ?_)
  have hN := (sc_Plan_request).nd
  obtain ⟨p0, a1, a0_0, a0_1, a0_2, a0_3, a0_4, a0_5, r0⟩ := g
  change m_Plan_request a1 a0_0 a0_1 a0_2 a0_3 a0_4 a0_5 = some r0 at h
  unfold m_Plan_request at h
  change J.JS _ B (⟨[(sR9 (.ref p0)), (J.refS W.qs (a1 : Int)), sA9, sA9], [(p0, (cI9 W.C_Plan [(("jobs" : St9), (sO9 (J.mlA (Cs0 W) W.qs (a0_0 : (List (Int × ((List Int) × (Int × (Int × ((List (Int × Bool)) × ((Option Int) × (Int × Int)))))))))))), (("frames_there" : St9), (sV9 (a0_1 : Int))), (("turn" : St9), (sV9 (a0_2 : Int))), (("waiting" : St9), (sO9 (cL9 ((a0_3 : List Int).map (J.refS W.qs))))), (("lettings" : St9), (sV9 (a0_4 : Int))), (("told" : St9), (sO9 (cL9 ((a0_5 : List J.Hap).map sV9))))]))]⟩ : J.Stt) _ (J.fend B (F_Plan_request (W)) ⟨p0, a1, a0_0, a0_1, a0_2, a0_3, a0_4, a0_5, r0⟩)
  refine J.js_open 0 0 rfl rfl fun p1 => ?_
  change J.JS _ _ (⟨[(sR9 (.ref p0)), (J.refS W.qs (a1 : Int)), sA9, sA9], [(p0, (cI9 W.C_Plan [(("jobs" : St9), (sR9 (.ref p1))), (("frames_there" : St9), (sV9 (a0_1 : Int))), (("turn" : St9), (sV9 (a0_2 : Int))), (("waiting" : St9), (sO9 (cL9 ((a0_3 : List Int).map (J.refS W.qs))))), (("lettings" : St9), (sV9 (a0_4 : Int))), (("told" : St9), (sO9 (cL9 ((a0_5 : List J.Hap).map sV9))))])), (p1, (J.mlA (Cs0 W) W.qs (a0_0 : (List (Int × ((List Int) × (Int × (Int × ((List (Int × Bool)) × ((Option Int) × (Int × Int)))))))))))]⟩ : J.Stt) _ _
  obtain ⟨x2, hx2, h⟩ := J.bndE h
  have gx2 := J.gxN_of hx2
  refine J.js_le (J.le_openRf (f := Cs0 W) (xs := (a0_0 : (List (Int × ((List Int) × (Int × (Int × ((List (Int × Bool)) × ((Option Int) × (Int × Int)))))))))) (qs := W.qs) (n := a1) 1 gx2.1 gx2.2 rfl) ?_
  change J.JS _ _ (⟨[(sR9 (.ref p0)), (sR9 (.ref (W.qs.getD (a1).toNat 0))), sA9, sA9], [(p0, (cI9 W.C_Plan [(("jobs" : St9), (sR9 (.ref p1))), (("frames_there" : St9), (sV9 (a0_1 : Int))), (("turn" : St9), (sV9 (a0_2 : Int))), (("waiting" : St9), (sO9 (cL9 ((a0_3 : List Int).map (J.refS W.qs))))), (("lettings" : St9), (sV9 (a0_4 : Int))), (("told" : St9), (sO9 (cL9 ((a0_5 : List J.Hap).map sV9))))])), (p1, (J.mlAH (Cs0 W) W.qs (a0_0 : (List (Int × ((List Int) × (Int × (Int × ((List (Int × Bool)) × ((Option Int) × (Int × Int))))))))) (a1).toNat (W.qs.getD (a1).toNat 0))), ((W.qs.getD (a1).toNat 0), (cI9 W.C_Job [(("number" : St9), (sV9 (x2.1 : Int))), (("trace" : St9), (sV9 (x2.2.1 : (List Int)))), (("window" : St9), (sV9 (x2.2.2.1 : Int))), (("at" : St9), (sV9 (x2.2.2.2.1 : Int))), (("pages_in" : St9), (sO9 (cD9 (J.dks (x2.2.2.2.2.1 : List (Int × Bool))) (J.dss (x2.2.2.2.2.1 : List (Int × Bool)))))), (("on_since" : St9), (sV9 (x2.2.2.2.2.2.1 : (Option Int)))), (("faults" : St9), (sO9 (cD9 [Sum.inr ("own" : St9), Sum.inr ("back" : St9)] [(sV9 (x2.2.2.2.2.2.2.1 : Int)), (sV9 (x2.2.2.2.2.2.2.2 : Int))])))]))]⟩ : J.Stt) _ _
  obtain ⟨x3, hx3, h⟩ := J.bndE h
  refine J.js_asg (J.je_mth0 (fr := F_Job_ask W) 2 W.cl_Job W.m_Job_ask (ok_Job_ask W) hr (by decide) W.b_Job_ask (J.je_var 1 rfl) rfl rfl (g := (⟨(W.qs.getD (a1).toNat 0), x2.1, x2.2.1, x2.2.2.1, x2.2.2.2.1, x2.2.2.2.2.1, x2.2.2.2.2.2.1, x2.2.2.2.2.2.2.1, x2.2.2.2.2.2.2.2, x3⟩ : G_Job_ask)) hx3 rfl (.cons 2 rfl (by nofun) .nil) (.cons 2 rfl .nil) (hG := fun G e => trivial)) (J.jg_pair (J.jgs_cons (J.jg_name 2 (hN := hN)) (J.jgs_cons (J.jg_name 3 (hN := hN)) J.jgs_nil))) ?_
  change J.JS _ _ (⟨[(sR9 (.ref p0)), (sR9 (.ref (W.qs.getD (a1).toNat 0))), (sV9 (x3.1.1 : Int)), (sV9 (x3.1.2 : St9))], [(p0, (cI9 W.C_Plan [(("jobs" : St9), (sR9 (.ref p1))), (("frames_there" : St9), (sV9 (a0_1 : Int))), (("turn" : St9), (sV9 (a0_2 : Int))), (("waiting" : St9), (sO9 (cL9 ((a0_3 : List Int).map (J.refS W.qs))))), (("lettings" : St9), (sV9 (a0_4 : Int))), (("told" : St9), (sO9 (cL9 ((a0_5 : List J.Hap).map sV9))))])), (p1, (J.mlAH (Cs0 W) W.qs (a0_0 : (List (Int × ((List Int) × (Int × (Int × ((List (Int × Bool)) × ((Option Int) × (Int × Int))))))))) (a1).toNat (W.qs.getD (a1).toNat 0))), ((W.qs.getD (a1).toNat 0), (cI9 W.C_Job [(("number" : St9), (sV9 (x2.1 : Int))), (("trace" : St9), (sV9 (x2.2.1 : (List Int)))), (("window" : St9), (sV9 (x2.2.2.1 : Int))), (("at" : St9), (sV9 (x3.2.1 : Int))), (("pages_in" : St9), (sO9 (cD9 (J.dks (x3.2.2 : List (Int × Bool))) (J.dss (x3.2.2 : List (Int × Bool)))))), (("on_since" : St9), (sV9 (x2.2.2.2.2.2.1 : (Option Int)))), (("faults" : St9), (sO9 (cD9 [Sum.inr ("own" : St9), Sum.inr ("back" : St9)] [(sV9 (x2.2.2.2.2.2.2.1 : Int)), (sV9 (x2.2.2.2.2.2.2.2 : Int))])))]))]⟩ : J.Stt) _ _
  refine J.js_le (J.le_closeRf (f := Cs0 W) (xs := (a0_0 : (List (Int × ((List Int) × (Int × (Int × ((List (Int × Bool)) × ((Option Int) × (Int × Int)))))))))) (qs := W.qs) (n := a1) (x := ((x2.1, (x2.2.1, (x2.2.2.1, (x3.2.1, (x3.2.2, (x2.2.2.2.2.2.1, (x2.2.2.2.2.2.2.1, x2.2.2.2.2.2.2.2))))))) : (Int × ((List Int) × (Int × (Int × ((List (Int × Bool)) × ((Option Int) × (Int × Int))))))))) 1 2 2 gx2.1 gx2.2 rfl rfl (by decide) (NGCs0 W)) ?_
  change J.JS _ _ (⟨[(sR9 (.ref p0)), (J.refS W.qs (a1 : Int)), (sV9 (x3.1.1 : Int)), (sV9 (x3.1.2 : St9))], [(p0, (cI9 W.C_Plan [(("jobs" : St9), (sR9 (.ref p1))), (("frames_there" : St9), (sV9 (a0_1 : Int))), (("turn" : St9), (sV9 (a0_2 : Int))), (("waiting" : St9), (sO9 (cL9 ((a0_3 : List Int).map (J.refS W.qs))))), (("lettings" : St9), (sV9 (a0_4 : Int))), (("told" : St9), (sO9 (cL9 ((a0_5 : List J.Hap).map sV9))))])), (p1, (J.mlA (Cs0 W) W.qs ((List.set a0_0 (a1).toNat ((x2.1, (x2.2.1, (x2.2.2.1, (x3.2.1, (x3.2.2, (x2.2.2.2.2.2.1, (x2.2.2.2.2.2.2.1, x2.2.2.2.2.2.2.2))))))) : (Int × ((List Int) × (Int × (Int × ((List (Int × Bool)) × ((Option Int) × (Int × Int))))))))) : (List (Int × ((List Int) × (Int × (Int × ((List (Int × Bool)) × ((Option Int) × (Int × Int)))))))))))]⟩ : J.Stt) _ _
  refine J.js_fold 0 1 0 1 rfl rfl rfl (by decide) J.mlA_ng ?_
  change J.JS _ _ (⟨[(sR9 (.ref p0)), (J.refS W.qs (a1 : Int)), (sV9 (x3.1.1 : Int)), (sV9 (x3.1.2 : St9))], [(p0, (cI9 W.C_Plan [(("jobs" : St9), (sO9 (J.mlA (Cs0 W) W.qs ((List.set a0_0 (a1).toNat ((x2.1, (x2.2.1, (x2.2.2.1, (x3.2.1, (x3.2.2, (x2.2.2.2.2.2.1, (x2.2.2.2.2.2.2.1, x2.2.2.2.2.2.2.2))))))) : (Int × ((List Int) × (Int × (Int × ((List (Int × Bool)) × ((Option Int) × (Int × Int))))))))) : (List (Int × ((List Int) × (Int × (Int × ((List (Int × Bool)) × ((Option Int) × (Int × Int)))))))))))), (("frames_there" : St9), (sV9 (a0_1 : Int))), (("turn" : St9), (sV9 (a0_2 : Int))), (("waiting" : St9), (sO9 (cL9 ((a0_3 : List Int).map (J.refS W.qs))))), (("lettings" : St9), (sV9 (a0_4 : Int))), (("told" : St9), (sO9 (cL9 ((a0_5 : List J.Hap).map sV9))))]))]⟩ : J.Stt) _ _
  obtain ⟨s4, hs4, h⟩ := J.bndE h
  refine J.js_ifE (π := Unit) (Sq := fun (q5 : Unit) => (⟨[(sR9 (.ref p0)), (J.refS W.qs (a1 : Int)), (sV9 (x3.1.1 : Int)), (sV9 (x3.1.2 : St9))], [(p0, (cI9 W.C_Plan [(("jobs" : St9), (sO9 (J.mlA (Cs0 W) W.qs (s4.1 : (List (Int × ((List Int) × (Int × (Int × ((List (Int × Bool)) × ((Option Int) × (Int × Int)))))))))))), (("frames_there" : St9), (sV9 (a0_1 : Int))), (("turn" : St9), (sV9 (a0_2 : Int))), (("waiting" : St9), (sO9 (cL9 ((s4.2.1 : List Int).map (J.refS W.qs))))), (("lettings" : St9), (sV9 (a0_4 : Int))), (("told" : St9), (sO9 (cL9 ((s4.2.2 : List J.Hap).map sV9))))]))]⟩ : J.Stt)) (J.jt_ne' (t := (x3.1.2 : St9)) (r := (("hit" : St9) : St9)) hr (J.je_var 3 rfl) (J.je_globS W.gS_HIT) J.dv_val J.dv_val) (fun hp => ?_) (fun hp => ?_) (fun q5 => ?_)
  · have h := J.ifT hp hs4
    obtain ⟨x6, hx6, h⟩ := J.bndE h
    refine J.js_expr (J.je_mth (fr := F_Plan_make_room W) 0 W.cl_Plan W.m_Plan_make_room (ok_Plan_make_room W) hr (by decide) W.b_Plan_make_room (J.je_var 0 rfl) rfl rfl (J.ja_cons (J.je_var 1 rfl) J.ja_nil) (g := (⟨p0, a1, (List.set a0_0 (a1).toNat ((x2.1, (x2.2.1, (x2.2.2.1, (x3.2.1, (x3.2.2, (x2.2.2.2.2.2.1, (x2.2.2.2.2.2.2.1, x2.2.2.2.2.2.2.2))))))) : (Int × ((List Int) × (Int × (Int × ((List (Int × Bool)) × ((Option Int) × (Int × Int))))))))), a0_1, a0_2, a0_3, a0_4, a0_5, x6⟩ : G_Plan_make_room)) hx6 rfl (.cons 0 rfl (by nofun) .nil) (.cons 0 rfl .nil) (hG := fun G e => trivial)) ?_
    change J.JS _ _ (⟨[(sR9 (.ref p0)), (J.refS W.qs (a1 : Int)), (sV9 (x3.1.1 : Int)), (sV9 (x3.1.2 : St9))], [(p0, (cI9 W.C_Plan [(("jobs" : St9), (sO9 (J.mlA (Cs0 W) W.qs (x6.1 : (List (Int × ((List Int) × (Int × (Int × ((List (Int × Bool)) × ((Option Int) × (Int × Int)))))))))))), (("frames_there" : St9), (sV9 (a0_1 : Int))), (("turn" : St9), (sV9 (a0_2 : Int))), (("waiting" : St9), (sO9 (cL9 ((x6.2.1 : List Int).map (J.refS W.qs))))), (("lettings" : St9), (sV9 (a0_4 : Int))), (("told" : St9), (sO9 (cL9 ((x6.2.2 : List J.Hap).map sV9))))]))]⟩ : J.Stt) _ _
    refine J.js_open 0 0 rfl rfl fun p7 => ?_
    change J.JS _ _ (⟨[(sR9 (.ref p0)), (J.refS W.qs (a1 : Int)), (sV9 (x3.1.1 : Int)), (sV9 (x3.1.2 : St9))], [(p0, (cI9 W.C_Plan [(("jobs" : St9), (sR9 (.ref p7))), (("frames_there" : St9), (sV9 (a0_1 : Int))), (("turn" : St9), (sV9 (a0_2 : Int))), (("waiting" : St9), (sO9 (cL9 ((x6.2.1 : List Int).map (J.refS W.qs))))), (("lettings" : St9), (sV9 (a0_4 : Int))), (("told" : St9), (sO9 (cL9 ((x6.2.2 : List J.Hap).map sV9))))])), (p7, (J.mlA (Cs0 W) W.qs (x6.1 : (List (Int × ((List Int) × (Int × (Int × ((List (Int × Bool)) × ((Option Int) × (Int × Int)))))))))))]⟩ : J.Stt) _ _
    obtain ⟨x8, hx8, h⟩ := J.bndE h
    have gx8 := J.gxN_of hx8
    refine J.js_le (J.le_openRf (f := Cs0 W) (xs := (x6.1 : (List (Int × ((List Int) × (Int × (Int × ((List (Int × Bool)) × ((Option Int) × (Int × Int)))))))))) (qs := W.qs) (n := a1) 1 gx8.1 gx8.2 rfl) ?_
    change J.JS _ _ (⟨[(sR9 (.ref p0)), (sR9 (.ref (W.qs.getD (a1).toNat 0))), (sV9 (x3.1.1 : Int)), (sV9 (x3.1.2 : St9))], [(p0, (cI9 W.C_Plan [(("jobs" : St9), (sR9 (.ref p7))), (("frames_there" : St9), (sV9 (a0_1 : Int))), (("turn" : St9), (sV9 (a0_2 : Int))), (("waiting" : St9), (sO9 (cL9 ((x6.2.1 : List Int).map (J.refS W.qs))))), (("lettings" : St9), (sV9 (a0_4 : Int))), (("told" : St9), (sO9 (cL9 ((x6.2.2 : List J.Hap).map sV9))))])), (p7, (J.mlAH (Cs0 W) W.qs (x6.1 : (List (Int × ((List Int) × (Int × (Int × ((List (Int × Bool)) × ((Option Int) × (Int × Int))))))))) (a1).toNat (W.qs.getD (a1).toNat 0))), ((W.qs.getD (a1).toNat 0), (cI9 W.C_Job [(("number" : St9), (sV9 (x8.1 : Int))), (("trace" : St9), (sV9 (x8.2.1 : (List Int)))), (("window" : St9), (sV9 (x8.2.2.1 : Int))), (("at" : St9), (sV9 (x8.2.2.2.1 : Int))), (("pages_in" : St9), (sO9 (cD9 (J.dks (x8.2.2.2.2.1 : List (Int × Bool))) (J.dss (x8.2.2.2.2.1 : List (Int × Bool)))))), (("on_since" : St9), (sV9 (x8.2.2.2.2.2.1 : (Option Int)))), (("faults" : St9), (sO9 (cD9 [Sum.inr ("own" : St9), Sum.inr ("back" : St9)] [(sV9 (x8.2.2.2.2.2.2.1 : Int)), (sV9 (x8.2.2.2.2.2.2.2 : Int))])))]))]⟩ : J.Stt) _ _
    refine J.js_open 2 4 rfl rfl fun p9 => ?_
    change J.JS _ _ (⟨[(sR9 (.ref p0)), (sR9 (.ref (W.qs.getD (a1).toNat 0))), (sV9 (x3.1.1 : Int)), (sV9 (x3.1.2 : St9))], [(p0, (cI9 W.C_Plan [(("jobs" : St9), (sR9 (.ref p7))), (("frames_there" : St9), (sV9 (a0_1 : Int))), (("turn" : St9), (sV9 (a0_2 : Int))), (("waiting" : St9), (sO9 (cL9 ((x6.2.1 : List Int).map (J.refS W.qs))))), (("lettings" : St9), (sV9 (a0_4 : Int))), (("told" : St9), (sO9 (cL9 ((x6.2.2 : List J.Hap).map sV9))))])), (p7, (J.mlAH (Cs0 W) W.qs (x6.1 : (List (Int × ((List Int) × (Int × (Int × ((List (Int × Bool)) × ((Option Int) × (Int × Int))))))))) (a1).toNat (W.qs.getD (a1).toNat 0))), ((W.qs.getD (a1).toNat 0), (cI9 W.C_Job [(("number" : St9), (sV9 (x8.1 : Int))), (("trace" : St9), (sV9 (x8.2.1 : (List Int)))), (("window" : St9), (sV9 (x8.2.2.1 : Int))), (("at" : St9), (sV9 (x8.2.2.2.1 : Int))), (("pages_in" : St9), (sR9 (.ref p9))), (("on_since" : St9), (sV9 (x8.2.2.2.2.2.1 : (Option Int)))), (("faults" : St9), (sO9 (cD9 [Sum.inr ("own" : St9), Sum.inr ("back" : St9)] [(sV9 (x8.2.2.2.2.2.2.1 : Int)), (sV9 (x8.2.2.2.2.2.2.2 : Int))])))])), (p9, (cD9 (J.dks (x8.2.2.2.2.1 : List (Int × Bool))) (J.dss (x8.2.2.2.2.1 : List (Int × Bool)))))]⟩ : J.Stt) _ _
    obtain ⟨x10, hx10, h⟩ := J.bndE h
    refine J.js_dputI (m := x8.2.2.2.2.1) 3 hr J.je_bl (J.je_fget 2 W.cl_Job W.na_Job_pages_in (J.je_var 1 rfl) rfl rfl) (J.je_var 2 rfl) rfl hx10 ?_
    change J.JS _ _ (⟨[(sR9 (.ref p0)), (sR9 (.ref (W.qs.getD (a1).toNat 0))), (sV9 (x3.1.1 : Int)), (sV9 (x3.1.2 : St9))], [(p0, (cI9 W.C_Plan [(("jobs" : St9), (sR9 (.ref p7))), (("frames_there" : St9), (sV9 (a0_1 : Int))), (("turn" : St9), (sV9 (a0_2 : Int))), (("waiting" : St9), (sO9 (cL9 ((x6.2.1 : List Int).map (J.refS W.qs))))), (("lettings" : St9), (sV9 (a0_4 : Int))), (("told" : St9), (sO9 (cL9 ((x6.2.2 : List J.Hap).map sV9))))])), (p7, (J.mlAH (Cs0 W) W.qs (x6.1 : (List (Int × ((List Int) × (Int × (Int × ((List (Int × Bool)) × ((Option Int) × (Int × Int))))))))) (a1).toNat (W.qs.getD (a1).toNat 0))), ((W.qs.getD (a1).toNat 0), (cI9 W.C_Job [(("number" : St9), (sV9 (x8.1 : Int))), (("trace" : St9), (sV9 (x8.2.1 : (List Int)))), (("window" : St9), (sV9 (x8.2.2.1 : Int))), (("at" : St9), (sV9 (x8.2.2.2.1 : Int))), (("pages_in" : St9), (sR9 (.ref p9))), (("on_since" : St9), (sV9 (x8.2.2.2.2.2.1 : (Option Int)))), (("faults" : St9), (sO9 (cD9 [Sum.inr ("own" : St9), Sum.inr ("back" : St9)] [(sV9 (x8.2.2.2.2.2.2.1 : Int)), (sV9 (x8.2.2.2.2.2.2.2 : Int))])))])), (p9, (cD9 (J.dks (x10 : List (Int × Bool))) (J.dss (x10 : List (Int × Bool)))))]⟩ : J.Stt) _ _
    refine J.js_fold 2 3 4 3 rfl rfl rfl (by decide) (by nofun) ?_
    change J.JS _ _ (⟨[(sR9 (.ref p0)), (sR9 (.ref (W.qs.getD (a1).toNat 0))), (sV9 (x3.1.1 : Int)), (sV9 (x3.1.2 : St9))], [(p0, (cI9 W.C_Plan [(("jobs" : St9), (sR9 (.ref p7))), (("frames_there" : St9), (sV9 (a0_1 : Int))), (("turn" : St9), (sV9 (a0_2 : Int))), (("waiting" : St9), (sO9 (cL9 ((x6.2.1 : List Int).map (J.refS W.qs))))), (("lettings" : St9), (sV9 (a0_4 : Int))), (("told" : St9), (sO9 (cL9 ((x6.2.2 : List J.Hap).map sV9))))])), (p7, (J.mlAH (Cs0 W) W.qs (x6.1 : (List (Int × ((List Int) × (Int × (Int × ((List (Int × Bool)) × ((Option Int) × (Int × Int))))))))) (a1).toNat (W.qs.getD (a1).toNat 0))), ((W.qs.getD (a1).toNat 0), (cI9 W.C_Job [(("number" : St9), (sV9 (x8.1 : Int))), (("trace" : St9), (sV9 (x8.2.1 : (List Int)))), (("window" : St9), (sV9 (x8.2.2.1 : Int))), (("at" : St9), (sV9 (x8.2.2.2.1 : Int))), (("pages_in" : St9), (sO9 (cD9 (J.dks (x10 : List (Int × Bool))) (J.dss (x10 : List (Int × Bool)))))), (("on_since" : St9), (sV9 (x8.2.2.2.2.2.1 : (Option Int)))), (("faults" : St9), (sO9 (cD9 [Sum.inr ("own" : St9), Sum.inr ("back" : St9)] [(sV9 (x8.2.2.2.2.2.2.1 : Int)), (sV9 (x8.2.2.2.2.2.2.2 : Int))])))]))]⟩ : J.Stt) _ _
    refine J.js_le (J.le_closeRf (f := Cs0 W) (xs := (x6.1 : (List (Int × ((List Int) × (Int × (Int × ((List (Int × Bool)) × ((Option Int) × (Int × Int)))))))))) (qs := W.qs) (n := a1) (x := ((x8.1, (x8.2.1, (x8.2.2.1, (x8.2.2.2.1, (x10, (x8.2.2.2.2.2.1, (x8.2.2.2.2.2.2.1, x8.2.2.2.2.2.2.2))))))) : (Int × ((List Int) × (Int × (Int × ((List (Int × Bool)) × ((Option Int) × (Int × Int))))))))) 1 2 2 gx8.1 gx8.2 rfl rfl (by decide) (NGCs0 W)) ?_
    change J.JS _ _ (⟨[(sR9 (.ref p0)), (J.refS W.qs (a1 : Int)), (sV9 (x3.1.1 : Int)), (sV9 (x3.1.2 : St9))], [(p0, (cI9 W.C_Plan [(("jobs" : St9), (sR9 (.ref p7))), (("frames_there" : St9), (sV9 (a0_1 : Int))), (("turn" : St9), (sV9 (a0_2 : Int))), (("waiting" : St9), (sO9 (cL9 ((x6.2.1 : List Int).map (J.refS W.qs))))), (("lettings" : St9), (sV9 (a0_4 : Int))), (("told" : St9), (sO9 (cL9 ((x6.2.2 : List J.Hap).map sV9))))])), (p7, (J.mlA (Cs0 W) W.qs ((List.set x6.1 (a1).toNat ((x8.1, (x8.2.1, (x8.2.2.1, (x8.2.2.2.1, (x10, (x8.2.2.2.2.2.1, (x8.2.2.2.2.2.2.1, x8.2.2.2.2.2.2.2))))))) : (Int × ((List Int) × (Int × (Int × ((List (Int × Bool)) × ((Option Int) × (Int × Int))))))))) : (List (Int × ((List Int) × (Int × (Int × ((List (Int × Bool)) × ((Option Int) × (Int × Int)))))))))))]⟩ : J.Stt) _ _
    refine J.js_fold 0 1 0 1 rfl rfl rfl (by decide) J.mlA_ng ?_
    change J.JS _ _ (⟨[(sR9 (.ref p0)), (J.refS W.qs (a1 : Int)), (sV9 (x3.1.1 : Int)), (sV9 (x3.1.2 : St9))], [(p0, (cI9 W.C_Plan [(("jobs" : St9), (sO9 (J.mlA (Cs0 W) W.qs ((List.set x6.1 (a1).toNat ((x8.1, (x8.2.1, (x8.2.2.1, (x8.2.2.2.1, (x10, (x8.2.2.2.2.2.1, (x8.2.2.2.2.2.2.1, x8.2.2.2.2.2.2.2))))))) : (Int × ((List Int) × (Int × (Int × ((List (Int × Bool)) × ((Option Int) × (Int × Int))))))))) : (List (Int × ((List Int) × (Int × (Int × ((List (Int × Bool)) × ((Option Int) × (Int × Int)))))))))))), (("frames_there" : St9), (sV9 (a0_1 : Int))), (("turn" : St9), (sV9 (a0_2 : Int))), (("waiting" : St9), (sO9 (cL9 ((x6.2.1 : List Int).map (J.refS W.qs))))), (("lettings" : St9), (sV9 (a0_4 : Int))), (("told" : St9), (sO9 (cL9 ((x6.2.2 : List J.Hap).map sV9))))]))]⟩ : J.Stt) _ _
    refine J.js_open 0 0 rfl rfl fun p11 => ?_
    change J.JS _ _ (⟨[(sR9 (.ref p0)), (J.refS W.qs (a1 : Int)), (sV9 (x3.1.1 : Int)), (sV9 (x3.1.2 : St9))], [(p0, (cI9 W.C_Plan [(("jobs" : St9), (sR9 (.ref p11))), (("frames_there" : St9), (sV9 (a0_1 : Int))), (("turn" : St9), (sV9 (a0_2 : Int))), (("waiting" : St9), (sO9 (cL9 ((x6.2.1 : List Int).map (J.refS W.qs))))), (("lettings" : St9), (sV9 (a0_4 : Int))), (("told" : St9), (sO9 (cL9 ((x6.2.2 : List J.Hap).map sV9))))])), (p11, (J.mlA (Cs0 W) W.qs ((List.set x6.1 (a1).toNat ((x8.1, (x8.2.1, (x8.2.2.1, (x8.2.2.2.1, (x10, (x8.2.2.2.2.2.1, (x8.2.2.2.2.2.2.1, x8.2.2.2.2.2.2.2))))))) : (Int × ((List Int) × (Int × (Int × ((List (Int × Bool)) × ((Option Int) × (Int × Int))))))))) : (List (Int × ((List Int) × (Int × (Int × ((List (Int × Bool)) × ((Option Int) × (Int × Int)))))))))))]⟩ : J.Stt) _ _
    obtain ⟨x12, hx12, h⟩ := J.bndE h
    have gx12 := J.gxN_of hx12
    refine J.js_le (J.le_openRf (f := Cs0 W) (xs := ((List.set x6.1 (a1).toNat ((x8.1, (x8.2.1, (x8.2.2.1, (x8.2.2.2.1, (x10, (x8.2.2.2.2.2.1, (x8.2.2.2.2.2.2.1, x8.2.2.2.2.2.2.2))))))) : (Int × ((List Int) × (Int × (Int × ((List (Int × Bool)) × ((Option Int) × (Int × Int))))))))) : (List (Int × ((List Int) × (Int × (Int × ((List (Int × Bool)) × ((Option Int) × (Int × Int)))))))))) (qs := W.qs) (n := a1) 1 gx12.1 gx12.2 rfl) ?_
    change J.JS _ _ (⟨[(sR9 (.ref p0)), (sR9 (.ref (W.qs.getD (a1).toNat 0))), (sV9 (x3.1.1 : Int)), (sV9 (x3.1.2 : St9))], [(p0, (cI9 W.C_Plan [(("jobs" : St9), (sR9 (.ref p11))), (("frames_there" : St9), (sV9 (a0_1 : Int))), (("turn" : St9), (sV9 (a0_2 : Int))), (("waiting" : St9), (sO9 (cL9 ((x6.2.1 : List Int).map (J.refS W.qs))))), (("lettings" : St9), (sV9 (a0_4 : Int))), (("told" : St9), (sO9 (cL9 ((x6.2.2 : List J.Hap).map sV9))))])), (p11, (J.mlAH (Cs0 W) W.qs ((List.set x6.1 (a1).toNat ((x8.1, (x8.2.1, (x8.2.2.1, (x8.2.2.2.1, (x10, (x8.2.2.2.2.2.1, (x8.2.2.2.2.2.2.1, x8.2.2.2.2.2.2.2))))))) : (Int × ((List Int) × (Int × (Int × ((List (Int × Bool)) × ((Option Int) × (Int × Int))))))))) : (List (Int × ((List Int) × (Int × (Int × ((List (Int × Bool)) × ((Option Int) × (Int × Int))))))))) (a1).toNat (W.qs.getD (a1).toNat 0))), ((W.qs.getD (a1).toNat 0), (cI9 W.C_Job [(("number" : St9), (sV9 (x12.1 : Int))), (("trace" : St9), (sV9 (x12.2.1 : (List Int)))), (("window" : St9), (sV9 (x12.2.2.1 : Int))), (("at" : St9), (sV9 (x12.2.2.2.1 : Int))), (("pages_in" : St9), (sO9 (cD9 (J.dks (x12.2.2.2.2.1 : List (Int × Bool))) (J.dss (x12.2.2.2.2.1 : List (Int × Bool)))))), (("on_since" : St9), (sV9 (x12.2.2.2.2.2.1 : (Option Int)))), (("faults" : St9), (sO9 (cD9 [Sum.inr ("own" : St9), Sum.inr ("back" : St9)] [(sV9 (x12.2.2.2.2.2.2.1 : Int)), (sV9 (x12.2.2.2.2.2.2.2 : Int))])))]))]⟩ : J.Stt) _ _
    refine J.js_open 2 6 rfl rfl fun p13 => ?_
    change J.JS _ _ (⟨[(sR9 (.ref p0)), (sR9 (.ref (W.qs.getD (a1).toNat 0))), (sV9 (x3.1.1 : Int)), (sV9 (x3.1.2 : St9))], [(p0, (cI9 W.C_Plan [(("jobs" : St9), (sR9 (.ref p11))), (("frames_there" : St9), (sV9 (a0_1 : Int))), (("turn" : St9), (sV9 (a0_2 : Int))), (("waiting" : St9), (sO9 (cL9 ((x6.2.1 : List Int).map (J.refS W.qs))))), (("lettings" : St9), (sV9 (a0_4 : Int))), (("told" : St9), (sO9 (cL9 ((x6.2.2 : List J.Hap).map sV9))))])), (p11, (J.mlAH (Cs0 W) W.qs ((List.set x6.1 (a1).toNat ((x8.1, (x8.2.1, (x8.2.2.1, (x8.2.2.2.1, (x10, (x8.2.2.2.2.2.1, (x8.2.2.2.2.2.2.1, x8.2.2.2.2.2.2.2))))))) : (Int × ((List Int) × (Int × (Int × ((List (Int × Bool)) × ((Option Int) × (Int × Int))))))))) : (List (Int × ((List Int) × (Int × (Int × ((List (Int × Bool)) × ((Option Int) × (Int × Int))))))))) (a1).toNat (W.qs.getD (a1).toNat 0))), ((W.qs.getD (a1).toNat 0), (cI9 W.C_Job [(("number" : St9), (sV9 (x12.1 : Int))), (("trace" : St9), (sV9 (x12.2.1 : (List Int)))), (("window" : St9), (sV9 (x12.2.2.1 : Int))), (("at" : St9), (sV9 (x12.2.2.2.1 : Int))), (("pages_in" : St9), (sO9 (cD9 (J.dks (x12.2.2.2.2.1 : List (Int × Bool))) (J.dss (x12.2.2.2.2.1 : List (Int × Bool)))))), (("on_since" : St9), (sV9 (x12.2.2.2.2.2.1 : (Option Int)))), (("faults" : St9), (sR9 (.ref p13)))])), (p13, (cD9 [Sum.inr ("own" : St9), Sum.inr ("back" : St9)] [(sV9 (x12.2.2.2.2.2.2.1 : Int)), (sV9 (x12.2.2.2.2.2.2.2 : Int))]))]⟩ : J.Stt) _ _
    obtain ⟨x14, hx14, h⟩ := J.bndE h
    refine J.js_daug2 (w := x3.1.2) (k1 := "own") (k2 := "back") (a := x12.2.2.2.2.2.2.1) (b := x12.2.2.2.2.2.2.2) (n := 1) 3 hx14 (by decide) hr (J.je_fget 2 W.cl_Job W.na_Job_faults (J.je_var 1 rfl) rfl rfl) (J.je_var 3 rfl) rfl J.je_int ?_
    change J.JS _ _ (⟨[(sR9 (.ref p0)), (sR9 (.ref (W.qs.getD (a1).toNat 0))), (sV9 (x3.1.1 : Int)), (sV9 (x3.1.2 : St9))], [(p0, (cI9 W.C_Plan [(("jobs" : St9), (sR9 (.ref p11))), (("frames_there" : St9), (sV9 (a0_1 : Int))), (("turn" : St9), (sV9 (a0_2 : Int))), (("waiting" : St9), (sO9 (cL9 ((x6.2.1 : List Int).map (J.refS W.qs))))), (("lettings" : St9), (sV9 (a0_4 : Int))), (("told" : St9), (sO9 (cL9 ((x6.2.2 : List J.Hap).map sV9))))])), (p11, (J.mlAH (Cs0 W) W.qs ((List.set x6.1 (a1).toNat ((x8.1, (x8.2.1, (x8.2.2.1, (x8.2.2.2.1, (x10, (x8.2.2.2.2.2.1, (x8.2.2.2.2.2.2.1, x8.2.2.2.2.2.2.2))))))) : (Int × ((List Int) × (Int × (Int × ((List (Int × Bool)) × ((Option Int) × (Int × Int))))))))) : (List (Int × ((List Int) × (Int × (Int × ((List (Int × Bool)) × ((Option Int) × (Int × Int))))))))) (a1).toNat (W.qs.getD (a1).toNat 0))), ((W.qs.getD (a1).toNat 0), (cI9 W.C_Job [(("number" : St9), (sV9 (x12.1 : Int))), (("trace" : St9), (sV9 (x12.2.1 : (List Int)))), (("window" : St9), (sV9 (x12.2.2.1 : Int))), (("at" : St9), (sV9 (x12.2.2.2.1 : Int))), (("pages_in" : St9), (sO9 (cD9 (J.dks (x12.2.2.2.2.1 : List (Int × Bool))) (J.dss (x12.2.2.2.2.1 : List (Int × Bool)))))), (("on_since" : St9), (sV9 (x12.2.2.2.2.2.1 : (Option Int)))), (("faults" : St9), (sR9 (.ref p13)))])), (p13, (cD9 [Sum.inr ("own" : St9), Sum.inr ("back" : St9)] [(sV9 ((if x3.1.2 = ("own" : St9) then x12.2.2.2.2.2.2.1 + 1 else x12.2.2.2.2.2.2.1) : Int)), (sV9 ((if x3.1.2 = ("own" : St9) then x12.2.2.2.2.2.2.2 else x12.2.2.2.2.2.2.2 + 1) : Int))]))]⟩ : J.Stt) _ _
    refine J.js_fold 2 3 6 3 rfl rfl rfl (by decide) (by nofun) ?_
    change J.JS _ _ (⟨[(sR9 (.ref p0)), (sR9 (.ref (W.qs.getD (a1).toNat 0))), (sV9 (x3.1.1 : Int)), (sV9 (x3.1.2 : St9))], [(p0, (cI9 W.C_Plan [(("jobs" : St9), (sR9 (.ref p11))), (("frames_there" : St9), (sV9 (a0_1 : Int))), (("turn" : St9), (sV9 (a0_2 : Int))), (("waiting" : St9), (sO9 (cL9 ((x6.2.1 : List Int).map (J.refS W.qs))))), (("lettings" : St9), (sV9 (a0_4 : Int))), (("told" : St9), (sO9 (cL9 ((x6.2.2 : List J.Hap).map sV9))))])), (p11, (J.mlAH (Cs0 W) W.qs ((List.set x6.1 (a1).toNat ((x8.1, (x8.2.1, (x8.2.2.1, (x8.2.2.2.1, (x10, (x8.2.2.2.2.2.1, (x8.2.2.2.2.2.2.1, x8.2.2.2.2.2.2.2))))))) : (Int × ((List Int) × (Int × (Int × ((List (Int × Bool)) × ((Option Int) × (Int × Int))))))))) : (List (Int × ((List Int) × (Int × (Int × ((List (Int × Bool)) × ((Option Int) × (Int × Int))))))))) (a1).toNat (W.qs.getD (a1).toNat 0))), ((W.qs.getD (a1).toNat 0), (cI9 W.C_Job [(("number" : St9), (sV9 (x12.1 : Int))), (("trace" : St9), (sV9 (x12.2.1 : (List Int)))), (("window" : St9), (sV9 (x12.2.2.1 : Int))), (("at" : St9), (sV9 (x12.2.2.2.1 : Int))), (("pages_in" : St9), (sO9 (cD9 (J.dks (x12.2.2.2.2.1 : List (Int × Bool))) (J.dss (x12.2.2.2.2.1 : List (Int × Bool)))))), (("on_since" : St9), (sV9 (x12.2.2.2.2.2.1 : (Option Int)))), (("faults" : St9), (sO9 (cD9 [Sum.inr ("own" : St9), Sum.inr ("back" : St9)] [(sV9 ((if x3.1.2 = ("own" : St9) then x12.2.2.2.2.2.2.1 + 1 else x12.2.2.2.2.2.2.1) : Int)), (sV9 ((if x3.1.2 = ("own" : St9) then x12.2.2.2.2.2.2.2 else x12.2.2.2.2.2.2.2 + 1) : Int))])))]))]⟩ : J.Stt) _ _
    refine J.js_le (J.le_closeRf (f := Cs0 W) (xs := ((List.set x6.1 (a1).toNat ((x8.1, (x8.2.1, (x8.2.2.1, (x8.2.2.2.1, (x10, (x8.2.2.2.2.2.1, (x8.2.2.2.2.2.2.1, x8.2.2.2.2.2.2.2))))))) : (Int × ((List Int) × (Int × (Int × ((List (Int × Bool)) × ((Option Int) × (Int × Int))))))))) : (List (Int × ((List Int) × (Int × (Int × ((List (Int × Bool)) × ((Option Int) × (Int × Int)))))))))) (qs := W.qs) (n := a1) (x := ((x12.1, (x12.2.1, (x12.2.2.1, (x12.2.2.2.1, (x12.2.2.2.2.1, (x12.2.2.2.2.2.1, ((if x3.1.2 = ("own" : St9) then x12.2.2.2.2.2.2.1 + 1 else x12.2.2.2.2.2.2.1), (if x3.1.2 = ("own" : St9) then x12.2.2.2.2.2.2.2 else x12.2.2.2.2.2.2.2 + 1)))))))) : (Int × ((List Int) × (Int × (Int × ((List (Int × Bool)) × ((Option Int) × (Int × Int))))))))) 1 2 2 gx12.1 gx12.2 rfl rfl (by decide) (NGCs0 W)) ?_
    change J.JS _ _ (⟨[(sR9 (.ref p0)), (J.refS W.qs (a1 : Int)), (sV9 (x3.1.1 : Int)), (sV9 (x3.1.2 : St9))], [(p0, (cI9 W.C_Plan [(("jobs" : St9), (sR9 (.ref p11))), (("frames_there" : St9), (sV9 (a0_1 : Int))), (("turn" : St9), (sV9 (a0_2 : Int))), (("waiting" : St9), (sO9 (cL9 ((x6.2.1 : List Int).map (J.refS W.qs))))), (("lettings" : St9), (sV9 (a0_4 : Int))), (("told" : St9), (sO9 (cL9 ((x6.2.2 : List J.Hap).map sV9))))])), (p11, (J.mlA (Cs0 W) W.qs ((List.set (List.set x6.1 (a1).toNat ((x8.1, (x8.2.1, (x8.2.2.1, (x8.2.2.2.1, (x10, (x8.2.2.2.2.2.1, (x8.2.2.2.2.2.2.1, x8.2.2.2.2.2.2.2))))))) : (Int × ((List Int) × (Int × (Int × ((List (Int × Bool)) × ((Option Int) × (Int × Int))))))))) (a1).toNat ((x12.1, (x12.2.1, (x12.2.2.1, (x12.2.2.2.1, (x12.2.2.2.2.1, (x12.2.2.2.2.2.1, ((if x3.1.2 = ("own" : St9) then x12.2.2.2.2.2.2.1 + 1 else x12.2.2.2.2.2.2.1), (if x3.1.2 = ("own" : St9) then x12.2.2.2.2.2.2.2 else x12.2.2.2.2.2.2.2 + 1)))))))) : (Int × ((List Int) × (Int × (Int × ((List (Int × Bool)) × ((Option Int) × (Int × Int))))))))) : (List (Int × ((List Int) × (Int × (Int × ((List (Int × Bool)) × ((Option Int) × (Int × Int)))))))))))]⟩ : J.Stt) _ _
    refine J.js_fold 0 1 0 1 rfl rfl rfl (by decide) J.mlA_ng ?_
    change J.JS _ _ (⟨[(sR9 (.ref p0)), (J.refS W.qs (a1 : Int)), (sV9 (x3.1.1 : Int)), (sV9 (x3.1.2 : St9))], [(p0, (cI9 W.C_Plan [(("jobs" : St9), (sO9 (J.mlA (Cs0 W) W.qs ((List.set (List.set x6.1 (a1).toNat ((x8.1, (x8.2.1, (x8.2.2.1, (x8.2.2.2.1, (x10, (x8.2.2.2.2.2.1, (x8.2.2.2.2.2.2.1, x8.2.2.2.2.2.2.2))))))) : (Int × ((List Int) × (Int × (Int × ((List (Int × Bool)) × ((Option Int) × (Int × Int))))))))) (a1).toNat ((x12.1, (x12.2.1, (x12.2.2.1, (x12.2.2.2.1, (x12.2.2.2.2.1, (x12.2.2.2.2.2.1, ((if x3.1.2 = ("own" : St9) then x12.2.2.2.2.2.2.1 + 1 else x12.2.2.2.2.2.2.1), (if x3.1.2 = ("own" : St9) then x12.2.2.2.2.2.2.2 else x12.2.2.2.2.2.2.2 + 1)))))))) : (Int × ((List Int) × (Int × (Int × ((List (Int × Bool)) × ((Option Int) × (Int × Int))))))))) : (List (Int × ((List Int) × (Int × (Int × ((List (Int × Bool)) × ((Option Int) × (Int × Int)))))))))))), (("frames_there" : St9), (sV9 (a0_1 : Int))), (("turn" : St9), (sV9 (a0_2 : Int))), (("waiting" : St9), (sO9 (cL9 ((x6.2.1 : List Int).map (J.refS W.qs))))), (("lettings" : St9), (sV9 (a0_4 : Int))), (("told" : St9), (sO9 (cL9 ((x6.2.2 : List J.Hap).map sV9))))]))]⟩ : J.Stt) _ _
    have h9 := Option.some.inj h
    subst h9
    exact J.js_loopEnd (Sq := fun (q5 : Unit) (s4 : ((List (Int × ((List Int) × (Int × (Int × ((List (Int × Bool)) × ((Option Int) × (Int × Int)))))))) × ((List Int) × (List J.Hap)))) => (⟨[(sR9 (.ref p0)), (J.refS W.qs (a1 : Int)), (sV9 (x3.1.1 : Int)), (sV9 (x3.1.2 : St9))], [(p0, (cI9 W.C_Plan [(("jobs" : St9), (sO9 (J.mlA (Cs0 W) W.qs (s4.1 : (List (Int × ((List Int) × (Int × (Int × ((List (Int × Bool)) × ((Option Int) × (Int × Int)))))))))))), (("frames_there" : St9), (sV9 (a0_1 : Int))), (("turn" : St9), (sV9 (a0_2 : Int))), (("waiting" : St9), (sO9 (cL9 ((s4.2.1 : List Int).map (J.refS W.qs))))), (("lettings" : St9), (sV9 (a0_4 : Int))), (("told" : St9), (sO9 (cL9 ((s4.2.2 : List J.Hap).map sV9))))]))]⟩ : J.Stt)) (s' := ((List.set (List.set x6.1 (a1).toNat ((x8.1, (x8.2.1, (x8.2.2.1, (x8.2.2.2.1, (x10, (x8.2.2.2.2.2.1, (x8.2.2.2.2.2.2.1, x8.2.2.2.2.2.2.2))))))) : (Int × ((List Int) × (Int × (Int × ((List (Int × Bool)) × ((Option Int) × (Int × Int))))))))) (a1).toNat ((x12.1, (x12.2.1, (x12.2.2.1, (x12.2.2.2.1, (x12.2.2.2.2.1, (x12.2.2.2.2.2.1, ((if x3.1.2 = ("own" : St9) then x12.2.2.2.2.2.2.1 + 1 else x12.2.2.2.2.2.2.1), (if x3.1.2 = ("own" : St9) then x12.2.2.2.2.2.2.2 else x12.2.2.2.2.2.2.2 + 1)))))))) : (Int × ((List Int) × (Int × (Int × ((List (Int × Bool)) × ((Option Int) × (Int × Int))))))))), (x6.2.1, x6.2.2))) 1 () (.keep (.keep (.keep (.keep .nil)))) rfl rfl
  · have h := J.ifF hp hs4
    have h9 := Option.some.inj h
    subst h9
    exact J.js_loopEnd (Sq := fun (q5 : Unit) (s4 : ((List (Int × ((List Int) × (Int × (Int × ((List (Int × Bool)) × ((Option Int) × (Int × Int)))))))) × ((List Int) × (List J.Hap)))) => (⟨[(sR9 (.ref p0)), (J.refS W.qs (a1 : Int)), (sV9 (x3.1.1 : Int)), (sV9 (x3.1.2 : St9))], [(p0, (cI9 W.C_Plan [(("jobs" : St9), (sO9 (J.mlA (Cs0 W) W.qs (s4.1 : (List (Int × ((List Int) × (Int × (Int × ((List (Int × Bool)) × ((Option Int) × (Int × Int)))))))))))), (("frames_there" : St9), (sV9 (a0_1 : Int))), (("turn" : St9), (sV9 (a0_2 : Int))), (("waiting" : St9), (sO9 (cL9 ((s4.2.1 : List Int).map (J.refS W.qs))))), (("lettings" : St9), (sV9 (a0_4 : Int))), (("told" : St9), (sO9 (cL9 ((s4.2.2 : List J.Hap).map sV9))))]))]⟩ : J.Stt)) (s' := ((List.set a0_0 (a1).toNat ((x2.1, (x2.2.1, (x2.2.2.1, (x3.2.1, (x3.2.2, (x2.2.2.2.2.2.1, (x2.2.2.2.2.2.2.1, x2.2.2.2.2.2.2.2))))))) : (Int × ((List Int) × (Int × (Int × ((List (Int × Bool)) × ((Option Int) × (Int × Int))))))))), (a0_3, a0_5))) 1 () (.keep (.keep (.keep (.keep .nil)))) rfl rfl
  refine J.js_open 0 5 rfl rfl fun p15 => ?_
  change J.JS _ _ (⟨[(sR9 (.ref p0)), (J.refS W.qs (a1 : Int)), (sV9 (x3.1.1 : Int)), (sV9 (x3.1.2 : St9))], [(p0, (cI9 W.C_Plan [(("jobs" : St9), (sO9 (J.mlA (Cs0 W) W.qs (s4.1 : (List (Int × ((List Int) × (Int × (Int × ((List (Int × Bool)) × ((Option Int) × (Int × Int)))))))))))), (("frames_there" : St9), (sV9 (a0_1 : Int))), (("turn" : St9), (sV9 (a0_2 : Int))), (("waiting" : St9), (sO9 (cL9 ((s4.2.1 : List Int).map (J.refS W.qs))))), (("lettings" : St9), (sV9 (a0_4 : Int))), (("told" : St9), (sR9 (.ref p15)))])), (p15, (cL9 ((s4.2.2 : List J.Hap).map sV9)))]⟩ : J.Stt) _ _
  obtain ⟨x17, hx17, h⟩ := J.bndE h
  obtain ⟨x18, hx18, h⟩ := J.bndE h
  refine J.js_expr (J.je_appG (xs := s4.2.2) (t := ((J.Hap.three ((PySem.W.T3.mk x3.1.2 x17.1 x3.1.1) : (PySem.W.T3 St9 Int Int)).a ((PySem.W.T3.mk x3.1.2 x17.1 x3.1.1) : (PySem.W.T3 St9 Int Int)).b ((PySem.W.T3.mk x3.1.2 x17.1 x3.1.1) : (PySem.W.T3 St9 Int Int)).c) : J.Hap)) 1 (J.je_fget 0 W.cl_Plan W.na_Plan_told (J.je_var 0 rfl) rfl rfl) rfl (J.je_same (t := ((PySem.W.T3.mk x3.1.2 x17.1 x3.1.1) : (PySem.W.T3 St9 Int Int))) (r := (J.Hap.three ((PySem.W.T3.mk x3.1.2 x17.1 x3.1.1) : (PySem.W.T3 St9 Int Int)).a ((PySem.W.T3.mk x3.1.2 x17.1 x3.1.1) : (PySem.W.T3 St9 Int Int)).b ((PySem.W.T3.mk x3.1.2 x17.1 x3.1.1) : (PySem.W.T3 St9 Int Int)).c)) (J.je_tup (t := ((PySem.W.T3.mk x3.1.2 x17.1 x3.1.1) : (PySem.W.T3 St9 Int Int))) (J.ja_cons (J.je_var 3 rfl) (J.ja_cons (J.je_atPart 0 0 rfl rfl J.mlA_ng (fun _ => rfl) (fun _ => rfl) fun p16 => (J.je_atRf (f := Cs0 W) (xs := (s4.1 : (List (Int × ((List Int) × (Int × (Int × ((List (Int × Bool)) × ((Option Int) × (Int × Int)))))))))) (qs := W.qs) (n := a1) 2 3 hx17 rfl rfl (NGCs0 W) (J.je_fget 3 W.cl_Job W.na_Job_number (J.je_var 1 rfl) rfl rfl))) (J.ja_cons (J.je_var 2 rfl) J.ja_nil))) (J.SlDs.cons J.sld_val (J.SlDs.cons J.sld_val (J.SlDs.cons J.sld_val J.SlDs.nil))) rfl (Nat.le_of_ble_eq_true rfl))) rfl hx18) ?_
  refine J.js_fold 0 1 5 1 rfl rfl rfl (by decide) (by nofun) ?_
  change J.JS _ _ (⟨[(sR9 (.ref p0)), (J.refS W.qs (a1 : Int)), (sV9 (x3.1.1 : Int)), (sV9 (x3.1.2 : St9))], [(p0, (cI9 W.C_Plan [(("jobs" : St9), (sO9 (J.mlA (Cs0 W) W.qs (s4.1 : (List (Int × ((List Int) × (Int × (Int × ((List (Int × Bool)) × ((Option Int) × (Int × Int)))))))))))), (("frames_there" : St9), (sV9 (a0_1 : Int))), (("turn" : St9), (sV9 (a0_2 : Int))), (("waiting" : St9), (sO9 (cL9 ((s4.2.1 : List Int).map (J.refS W.qs))))), (("lettings" : St9), (sV9 (a0_4 : Int))), (("told" : St9), (sO9 (cL9 ((x18 : List J.Hap).map sV9))))]))]⟩ : J.Stt) _ _
  obtain ⟨x20, hx20, h⟩ := J.bndE h
  obtain ⟨x21, hx21, h⟩ := J.bndE h
  obtain ⟨s22, hs22, h⟩ := J.bndE h
  refine J.js_ifE (π := Unit) (Sq := fun (q23 : Unit) => (⟨[(sR9 (.ref p0)), (J.refS W.qs (a1 : Int)), (sV9 (x3.1.1 : Int)), (sV9 (x3.1.2 : St9))], [(p0, (cI9 W.C_Plan [(("jobs" : St9), (sO9 (J.mlA (Cs0 W) W.qs (s22.1 : (List (Int × ((List Int) × (Int × (Int × ((List (Int × Bool)) × ((Option Int) × (Int × Int)))))))))))), (("frames_there" : St9), (sV9 (a0_1 : Int))), (("turn" : St9), (sV9 (a0_2 : Int))), (("waiting" : St9), (sO9 (cL9 ((s4.2.1 : List Int).map (J.refS W.qs))))), (("lettings" : St9), (sV9 (a0_4 : Int))), (("told" : St9), (sO9 (cL9 ((s22.2 : List J.Hap).map sV9))))]))]⟩ : J.Stt)) (J.jt_bl (J.je_atPart 0 0 rfl rfl J.mlA_ng (fun _ => rfl) (fun _ => rfl) fun p19 => (J.je_atRf (f := Cs0 W) (xs := (s4.1 : (List (Int × ((List Int) × (Int × (Int × ((List (Int × Bool)) × ((Option Int) × (Int × Int)))))))))) (qs := W.qs) (n := a1) 1 2 hx20 rfl rfl (NGCs0 W) (J.je_mth0 (fr := F_Job_is_done W) 2 W.cl_Job W.m_Job_is_done (ok_Job_is_done W) hr (by decide) W.b_Job_is_done (J.je_var 1 rfl) rfl rfl (g := (⟨(W.qs.getD (a1).toNat 0), x20.1, x20.2.1, x20.2.2.1, x20.2.2.2.1, x20.2.2.2.2.1, x20.2.2.2.2.2.1, x20.2.2.2.2.2.2.1, x20.2.2.2.2.2.2.2, x21⟩ : G_Job_is_done)) hx21 rfl (.cons 2 rfl (by nofun) .nil) (.cons 2 rfl .nil) (hG := fun G e => trivial))))) (fun hp => ?_) (fun hp => ?_) (fun q23 => ?_)
  · have h := J.ifT hp hs22
    refine J.js_open 0 0 rfl rfl fun p24 => ?_
    change J.JS _ _ (⟨[(sR9 (.ref p0)), (J.refS W.qs (a1 : Int)), (sV9 (x3.1.1 : Int)), (sV9 (x3.1.2 : St9))], [(p0, (cI9 W.C_Plan [(("jobs" : St9), (sR9 (.ref p24))), (("frames_there" : St9), (sV9 (a0_1 : Int))), (("turn" : St9), (sV9 (a0_2 : Int))), (("waiting" : St9), (sO9 (cL9 ((s4.2.1 : List Int).map (J.refS W.qs))))), (("lettings" : St9), (sV9 (a0_4 : Int))), (("told" : St9), (sO9 (cL9 ((x18 : List J.Hap).map sV9))))])), (p24, (J.mlA (Cs0 W) W.qs (s4.1 : (List (Int × ((List Int) × (Int × (Int × ((List (Int × Bool)) × ((Option Int) × (Int × Int)))))))))))]⟩ : J.Stt) _ _
    obtain ⟨x25, hx25, h⟩ := J.bndE h
    have gx25 := J.gxN_of hx25
    refine J.js_le (J.le_openRf (f := Cs0 W) (xs := (s4.1 : (List (Int × ((List Int) × (Int × (Int × ((List (Int × Bool)) × ((Option Int) × (Int × Int)))))))))) (qs := W.qs) (n := a1) 1 gx25.1 gx25.2 rfl) ?_
    change J.JS _ _ (⟨[(sR9 (.ref p0)), (sR9 (.ref (W.qs.getD (a1).toNat 0))), (sV9 (x3.1.1 : Int)), (sV9 (x3.1.2 : St9))], [(p0, (cI9 W.C_Plan [(("jobs" : St9), (sR9 (.ref p24))), (("frames_there" : St9), (sV9 (a0_1 : Int))), (("turn" : St9), (sV9 (a0_2 : Int))), (("waiting" : St9), (sO9 (cL9 ((s4.2.1 : List Int).map (J.refS W.qs))))), (("lettings" : St9), (sV9 (a0_4 : Int))), (("told" : St9), (sO9 (cL9 ((x18 : List J.Hap).map sV9))))])), (p24, (J.mlAH (Cs0 W) W.qs (s4.1 : (List (Int × ((List Int) × (Int × (Int × ((List (Int × Bool)) × ((Option Int) × (Int × Int))))))))) (a1).toNat (W.qs.getD (a1).toNat 0))), ((W.qs.getD (a1).toNat 0), (cI9 W.C_Job [(("number" : St9), (sV9 (x25.1 : Int))), (("trace" : St9), (sV9 (x25.2.1 : (List Int)))), (("window" : St9), (sV9 (x25.2.2.1 : Int))), (("at" : St9), (sV9 (x25.2.2.2.1 : Int))), (("pages_in" : St9), (sO9 (cD9 (J.dks (x25.2.2.2.2.1 : List (Int × Bool))) (J.dss (x25.2.2.2.2.1 : List (Int × Bool)))))), (("on_since" : St9), (sV9 (x25.2.2.2.2.2.1 : (Option Int)))), (("faults" : St9), (sO9 (cD9 [Sum.inr ("own" : St9), Sum.inr ("back" : St9)] [(sV9 (x25.2.2.2.2.2.2.1 : Int)), (sV9 (x25.2.2.2.2.2.2.2 : Int))])))]))]⟩ : J.Stt) _ _
    obtain ⟨x26, hx26, h⟩ := J.bndE h
    refine J.js_expr (J.je_mth0 (fr := F_Job_leave W) 2 W.cl_Job W.m_Job_leave (ok_Job_leave W) hr (by decide) W.b_Job_leave (J.je_var 1 rfl) rfl rfl (g := (⟨(W.qs.getD (a1).toNat 0), x25.1, x25.2.1, x25.2.2.1, x25.2.2.2.1, x25.2.2.2.2.1, x25.2.2.2.2.2.1, x25.2.2.2.2.2.2.1, x25.2.2.2.2.2.2.2, x26⟩ : G_Job_leave)) hx26 rfl (.cons 2 rfl (by nofun) .nil) (.cons 2 rfl .nil) (hG := fun G e => trivial)) ?_
    change J.JS _ _ (⟨[(sR9 (.ref p0)), (sR9 (.ref (W.qs.getD (a1).toNat 0))), (sV9 (x3.1.1 : Int)), (sV9 (x3.1.2 : St9))], [(p0, (cI9 W.C_Plan [(("jobs" : St9), (sR9 (.ref p24))), (("frames_there" : St9), (sV9 (a0_1 : Int))), (("turn" : St9), (sV9 (a0_2 : Int))), (("waiting" : St9), (sO9 (cL9 ((s4.2.1 : List Int).map (J.refS W.qs))))), (("lettings" : St9), (sV9 (a0_4 : Int))), (("told" : St9), (sO9 (cL9 ((x18 : List J.Hap).map sV9))))])), (p24, (J.mlAH (Cs0 W) W.qs (s4.1 : (List (Int × ((List Int) × (Int × (Int × ((List (Int × Bool)) × ((Option Int) × (Int × Int))))))))) (a1).toNat (W.qs.getD (a1).toNat 0))), ((W.qs.getD (a1).toNat 0), (cI9 W.C_Job [(("number" : St9), (sV9 (x25.1 : Int))), (("trace" : St9), (sV9 (x25.2.1 : (List Int)))), (("window" : St9), (sV9 (x25.2.2.1 : Int))), (("at" : St9), (sV9 (x25.2.2.2.1 : Int))), (("pages_in" : St9), (sO9 (cD9 (J.dks (x26.1 : List (Int × Bool))) (J.dss (x26.1 : List (Int × Bool)))))), (("on_since" : St9), (sV9 (x26.2 : (Option Int)))), (("faults" : St9), (sO9 (cD9 [Sum.inr ("own" : St9), Sum.inr ("back" : St9)] [(sV9 (x25.2.2.2.2.2.2.1 : Int)), (sV9 (x25.2.2.2.2.2.2.2 : Int))])))]))]⟩ : J.Stt) _ _
    refine J.js_le (J.le_closeRf (f := Cs0 W) (xs := (s4.1 : (List (Int × ((List Int) × (Int × (Int × ((List (Int × Bool)) × ((Option Int) × (Int × Int)))))))))) (qs := W.qs) (n := a1) (x := ((x25.1, (x25.2.1, (x25.2.2.1, (x25.2.2.2.1, (x26.1, (x26.2, (x25.2.2.2.2.2.2.1, x25.2.2.2.2.2.2.2))))))) : (Int × ((List Int) × (Int × (Int × ((List (Int × Bool)) × ((Option Int) × (Int × Int))))))))) 1 2 2 gx25.1 gx25.2 rfl rfl (by decide) (NGCs0 W)) ?_
    change J.JS _ _ (⟨[(sR9 (.ref p0)), (J.refS W.qs (a1 : Int)), (sV9 (x3.1.1 : Int)), (sV9 (x3.1.2 : St9))], [(p0, (cI9 W.C_Plan [(("jobs" : St9), (sR9 (.ref p24))), (("frames_there" : St9), (sV9 (a0_1 : Int))), (("turn" : St9), (sV9 (a0_2 : Int))), (("waiting" : St9), (sO9 (cL9 ((s4.2.1 : List Int).map (J.refS W.qs))))), (("lettings" : St9), (sV9 (a0_4 : Int))), (("told" : St9), (sO9 (cL9 ((x18 : List J.Hap).map sV9))))])), (p24, (J.mlA (Cs0 W) W.qs ((List.set s4.1 (a1).toNat ((x25.1, (x25.2.1, (x25.2.2.1, (x25.2.2.2.1, (x26.1, (x26.2, (x25.2.2.2.2.2.2.1, x25.2.2.2.2.2.2.2))))))) : (Int × ((List Int) × (Int × (Int × ((List (Int × Bool)) × ((Option Int) × (Int × Int))))))))) : (List (Int × ((List Int) × (Int × (Int × ((List (Int × Bool)) × ((Option Int) × (Int × Int)))))))))))]⟩ : J.Stt) _ _
    refine J.js_fold 0 1 0 1 rfl rfl rfl (by decide) J.mlA_ng ?_
    change J.JS _ _ (⟨[(sR9 (.ref p0)), (J.refS W.qs (a1 : Int)), (sV9 (x3.1.1 : Int)), (sV9 (x3.1.2 : St9))], [(p0, (cI9 W.C_Plan [(("jobs" : St9), (sO9 (J.mlA (Cs0 W) W.qs ((List.set s4.1 (a1).toNat ((x25.1, (x25.2.1, (x25.2.2.1, (x25.2.2.2.1, (x26.1, (x26.2, (x25.2.2.2.2.2.2.1, x25.2.2.2.2.2.2.2))))))) : (Int × ((List Int) × (Int × (Int × ((List (Int × Bool)) × ((Option Int) × (Int × Int))))))))) : (List (Int × ((List Int) × (Int × (Int × ((List (Int × Bool)) × ((Option Int) × (Int × Int)))))))))))), (("frames_there" : St9), (sV9 (a0_1 : Int))), (("turn" : St9), (sV9 (a0_2 : Int))), (("waiting" : St9), (sO9 (cL9 ((s4.2.1 : List Int).map (J.refS W.qs))))), (("lettings" : St9), (sV9 (a0_4 : Int))), (("told" : St9), (sO9 (cL9 ((x18 : List J.Hap).map sV9))))]))]⟩ : J.Stt) _ _
    refine J.js_open 0 5 rfl rfl fun p27 => ?_
    change J.JS _ _ (⟨[(sR9 (.ref p0)), (J.refS W.qs (a1 : Int)), (sV9 (x3.1.1 : Int)), (sV9 (x3.1.2 : St9))], [(p0, (cI9 W.C_Plan [(("jobs" : St9), (sO9 (J.mlA (Cs0 W) W.qs ((List.set s4.1 (a1).toNat ((x25.1, (x25.2.1, (x25.2.2.1, (x25.2.2.2.1, (x26.1, (x26.2, (x25.2.2.2.2.2.2.1, x25.2.2.2.2.2.2.2))))))) : (Int × ((List Int) × (Int × (Int × ((List (Int × Bool)) × ((Option Int) × (Int × Int))))))))) : (List (Int × ((List Int) × (Int × (Int × ((List (Int × Bool)) × ((Option Int) × (Int × Int)))))))))))), (("frames_there" : St9), (sV9 (a0_1 : Int))), (("turn" : St9), (sV9 (a0_2 : Int))), (("waiting" : St9), (sO9 (cL9 ((s4.2.1 : List Int).map (J.refS W.qs))))), (("lettings" : St9), (sV9 (a0_4 : Int))), (("told" : St9), (sR9 (.ref p27)))])), (p27, (cL9 ((x18 : List J.Hap).map sV9)))]⟩ : J.Stt) _ _
    obtain ⟨x29, hx29, h⟩ := J.bndE h
    obtain ⟨x30, hx30, h⟩ := J.bndE h
    refine J.js_expr (J.je_appG (xs := x18) (t := ((J.Hap.two ((("done" : St9), x29.1) : (St9 × Int)).1 ((("done" : St9), x29.1) : (St9 × Int)).2) : J.Hap)) 1 (J.je_fget 0 W.cl_Plan W.na_Plan_told (J.je_var 0 rfl) rfl rfl) rfl (J.je_same (t := ((("done" : St9), x29.1) : (St9 × Int))) (r := (J.Hap.two ((("done" : St9), x29.1) : (St9 × Int)).1 ((("done" : St9), x29.1) : (St9 × Int)).2)) (J.je_tup (t := ((("done" : St9), x29.1) : (St9 × Int))) (J.ja_cons J.je_str (J.ja_cons (J.je_atPart 0 0 rfl rfl J.mlA_ng (fun _ => rfl) (fun _ => rfl) fun p28 => (J.je_atRf (f := Cs0 W) (xs := ((List.set s4.1 (a1).toNat ((x25.1, (x25.2.1, (x25.2.2.1, (x25.2.2.2.1, (x26.1, (x26.2, (x25.2.2.2.2.2.2.1, x25.2.2.2.2.2.2.2))))))) : (Int × ((List Int) × (Int × (Int × ((List (Int × Bool)) × ((Option Int) × (Int × Int))))))))) : (List (Int × ((List Int) × (Int × (Int × ((List (Int × Bool)) × ((Option Int) × (Int × Int)))))))))) (qs := W.qs) (n := a1) 2 3 hx29 rfl rfl (NGCs0 W) (J.je_fget 3 W.cl_Job W.na_Job_number (J.je_var 1 rfl) rfl rfl))) J.ja_nil)) (J.SlDs.cons J.sld_val (J.SlDs.cons J.sld_val J.SlDs.nil)) rfl (Nat.le_of_ble_eq_true rfl))) rfl hx30) ?_
    refine J.js_fold 0 1 5 1 rfl rfl rfl (by decide) (by nofun) ?_
    change J.JS _ _ (⟨[(sR9 (.ref p0)), (J.refS W.qs (a1 : Int)), (sV9 (x3.1.1 : Int)), (sV9 (x3.1.2 : St9))], [(p0, (cI9 W.C_Plan [(("jobs" : St9), (sO9 (J.mlA (Cs0 W) W.qs ((List.set s4.1 (a1).toNat ((x25.1, (x25.2.1, (x25.2.2.1, (x25.2.2.2.1, (x26.1, (x26.2, (x25.2.2.2.2.2.2.1, x25.2.2.2.2.2.2.2))))))) : (Int × ((List Int) × (Int × (Int × ((List (Int × Bool)) × ((Option Int) × (Int × Int))))))))) : (List (Int × ((List Int) × (Int × (Int × ((List (Int × Bool)) × ((Option Int) × (Int × Int)))))))))))), (("frames_there" : St9), (sV9 (a0_1 : Int))), (("turn" : St9), (sV9 (a0_2 : Int))), (("waiting" : St9), (sO9 (cL9 ((s4.2.1 : List Int).map (J.refS W.qs))))), (("lettings" : St9), (sV9 (a0_4 : Int))), (("told" : St9), (sO9 (cL9 ((x30 : List J.Hap).map sV9))))]))]⟩ : J.Stt) _ _
    have h9 := Option.some.inj h
    subst h9
    exact J.js_loopEnd (Sq := fun (q23 : Unit) (s22 : ((List (Int × ((List Int) × (Int × (Int × ((List (Int × Bool)) × ((Option Int) × (Int × Int)))))))) × (List J.Hap))) => (⟨[(sR9 (.ref p0)), (J.refS W.qs (a1 : Int)), (sV9 (x3.1.1 : Int)), (sV9 (x3.1.2 : St9))], [(p0, (cI9 W.C_Plan [(("jobs" : St9), (sO9 (J.mlA (Cs0 W) W.qs (s22.1 : (List (Int × ((List Int) × (Int × (Int × ((List (Int × Bool)) × ((Option Int) × (Int × Int)))))))))))), (("frames_there" : St9), (sV9 (a0_1 : Int))), (("turn" : St9), (sV9 (a0_2 : Int))), (("waiting" : St9), (sO9 (cL9 ((s4.2.1 : List Int).map (J.refS W.qs))))), (("lettings" : St9), (sV9 (a0_4 : Int))), (("told" : St9), (sO9 (cL9 ((s22.2 : List J.Hap).map sV9))))]))]⟩ : J.Stt)) (s' := ((List.set s4.1 (a1).toNat ((x25.1, (x25.2.1, (x25.2.2.1, (x25.2.2.2.1, (x26.1, (x26.2, (x25.2.2.2.2.2.2.1, x25.2.2.2.2.2.2.2))))))) : (Int × ((List Int) × (Int × (Int × ((List (Int × Bool)) × ((Option Int) × (Int × Int))))))))), x30)) 1 () (.keep (.keep (.keep (.keep .nil)))) rfl rfl
  · have h := J.ifF hp hs22
    have h9 := Option.some.inj h
    subst h9
    exact J.js_loopEnd (Sq := fun (q23 : Unit) (s22 : ((List (Int × ((List Int) × (Int × (Int × ((List (Int × Bool)) × ((Option Int) × (Int × Int)))))))) × (List J.Hap))) => (⟨[(sR9 (.ref p0)), (J.refS W.qs (a1 : Int)), (sV9 (x3.1.1 : Int)), (sV9 (x3.1.2 : St9))], [(p0, (cI9 W.C_Plan [(("jobs" : St9), (sO9 (J.mlA (Cs0 W) W.qs (s22.1 : (List (Int × ((List Int) × (Int × (Int × ((List (Int × Bool)) × ((Option Int) × (Int × Int)))))))))))), (("frames_there" : St9), (sV9 (a0_1 : Int))), (("turn" : St9), (sV9 (a0_2 : Int))), (("waiting" : St9), (sO9 (cL9 ((s4.2.1 : List Int).map (J.refS W.qs))))), (("lettings" : St9), (sV9 (a0_4 : Int))), (("told" : St9), (sO9 (cL9 ((s22.2 : List J.Hap).map sV9))))]))]⟩ : J.Stt)) (s' := (s4.1, x18)) 1 () (.keep (.keep (.keep (.keep .nil)))) rfl rfl
  have h9 := Option.some.inj h
  subst h9
  exact J.js_fin 1 rfl rfl
structure G_Plan_take_turn where
  p0 : PySem.Addr
  a1 : Int
  a0_0 : (List (Int × ((List Int) × (Int × (Int × ((List (Int × Bool)) × ((Option Int) × (Int × Int))))))))
  a0_1 : Int
  a0_2 : Int
  a0_3 : (List Int)
  a0_4 : Int
  a0_5 : (List J.Hap)
  out : ((List (Int × ((List Int) × (Int × (Int × ((List (Int × Bool)) × ((Option Int) × (Int × Int)))))))) × ((List Int) × (List J.Hap)))
abbrev R_Plan_take_turn {K : PySem.W.Frag} {mg : Str → Option Value} (W : Wd K mg) (r : ((List (Int × ((List Int) × (Int × (Int × ((List (Int × Bool)) × ((Option Int) × (Int × Int)))))))) × ((List Int) × (List J.Hap)))) : J.Slot := (sR9 .non)
abbrev C_Plan_take_turn {K : PySem.W.Frag} {mg : Str → Option Value} (W : Wd K mg) (p0 : PySem.Addr) (a1 : Int) (a0_0 : (List (Int × ((List Int) × (Int × (Int × ((List (Int × Bool)) × ((Option Int) × (Int × Int))))))))) (a0_1 : Int) (a0_2 : Int) (a0_3 : (List Int)) (a0_4 : Int) (a0_5 : (List J.Hap)) (r : ((List (Int × ((List Int) × (Int × (Int × ((List (Int × Bool)) × ((Option Int) × (Int × Int)))))))) × ((List Int) × (List J.Hap)))) : List (PySem.Addr × J.Cel) := [(p0, (cI9 W.C_Plan [(("jobs" : St9), (sO9 (J.mlA (Cs0 W) W.qs (r.1 : (List (Int × ((List Int) × (Int × (Int × ((List (Int × Bool)) × ((Option Int) × (Int × Int)))))))))))), (("frames_there" : St9), (sV9 (a0_1 : Int))), (("turn" : St9), (sV9 (a0_2 : Int))), (("waiting" : St9), (sO9 (cL9 ((r.2.1 : List Int).map (J.refS W.qs))))), (("lettings" : St9), (sV9 (a0_4 : Int))), (("told" : St9), (sO9 (cL9 ((r.2.2 : List J.Hap).map sV9))))]))]
abbrev A_Plan_take_turn {K : PySem.W.Frag} {mg : Str → Option Value} (W : Wd K mg) (p0 : PySem.Addr) (a1 : Int) (a0_0 : (List (Int × ((List Int) × (Int × (Int × ((List (Int × Bool)) × ((Option Int) × (Int × Int))))))))) (a0_1 : Int) (a0_2 : Int) (a0_3 : (List Int)) (a0_4 : Int) (a0_5 : (List J.Hap)) : List J.Slot := [(sR9 (.ref p0)), (J.refS W.qs (a1 : Int))]
abbrev D_Plan_take_turn {K : PySem.W.Frag} {mg : Str → Option Value} (W : Wd K mg) (p0 : PySem.Addr) (a1 : Int) (a0_0 : (List (Int × ((List Int) × (Int × (Int × ((List (Int × Bool)) × ((Option Int) × (Int × Int))))))))) (a0_1 : Int) (a0_2 : Int) (a0_3 : (List Int)) (a0_4 : Int) (a0_5 : (List J.Hap)) : List (PySem.Addr × J.Cel) := [(p0, (cI9 W.C_Plan [(("jobs" : St9), (sO9 (J.mlA (Cs0 W) W.qs (a0_0 : (List (Int × ((List Int) × (Int × (Int × ((List (Int × Bool)) × ((Option Int) × (Int × Int)))))))))))), (("frames_there" : St9), (sV9 (a0_1 : Int))), (("turn" : St9), (sV9 (a0_2 : Int))), (("waiting" : St9), (sO9 (cL9 ((a0_3 : List Int).map (J.refS W.qs))))), (("lettings" : St9), (sV9 (a0_4 : Int))), (("told" : St9), (sO9 (cL9 ((a0_5 : List J.Hap).map sV9))))]))]
def F_Plan_take_turn {K : PySem.W.Frag} {mg : Str → Option Value} (W : Wd K mg)  : J.FS G_Plan_take_turn where
  pre := fun g => m_Plan_take_turn g.a1 g.a0_0 g.a0_1 g.a0_2 g.a0_3 g.a0_4 g.a0_5 = some g.out
  preG := fun _ _ => True
  args := fun g => A_Plan_take_turn W g.p0 g.a1 g.a0_0 g.a0_1 g.a0_2 g.a0_3 g.a0_4 g.a0_5
  cells := fun g => D_Plan_take_turn W g.p0 g.a1 g.a0_0 g.a0_1 g.a0_2 g.a0_3 g.a0_4 g.a0_5
  res := fun g => R_Plan_take_turn W g.out
  cells' := fun g => C_Plan_take_turn W g.p0 g.a1 g.a0_0 g.a0_1 g.a0_2 g.a0_3 g.a0_4 g.a0_5 g.out
theorem ok_Plan_take_turn (W : Wd K mg) : FnOk P w K mg base CX0 5 W.a_Plan_take_turn W.d_Plan_take_turn ["self", "job"] (F_Plan_take_turn (W)).sp := by
  refine J.fn_okD (F_Plan_take_turn (W)) W.F_Plan_take_turn sc_Plan_take_turn (fun g => rfl) (fun g => by intro s hs; simp only [F_Plan_take_turn, List.mem_cons, List.not_mem_nil, or_false] at hs; rcases hs with rfl | rfl <;> first | rfl | exact J.xsl_plain) (fun cdv A outer s H E hr B g h hG => ?_)
  have hN := (sc_Plan_take_turn).nd
  obtain ⟨p0, a1, a0_0, a0_1, a0_2, a0_3, a0_4, a0_5, r0⟩ := g
  change m_Plan_take_turn a1 a0_0 a0_1 a0_2 a0_3 a0_4 a0_5 = some r0 at h
  unfold m_Plan_take_turn at h
  change J.JS _ B (⟨[(sR9 (.ref p0)), (J.refS W.qs (a1 : Int)), sA9], [(p0, (cI9 W.C_Plan [(("jobs" : St9), (sO9 (J.mlA (Cs0 W) W.qs (a0_0 : (List (Int × ((List Int) × (Int × (Int × ((List (Int × Bool)) × ((Option Int) × (Int × Int)))))))))))), (("frames_there" : St9), (sV9 (a0_1 : Int))), (("turn" : St9), (sV9 (a0_2 : Int))), (("waiting" : St9), (sO9 (cL9 ((a0_3 : List Int).map (J.refS W.qs))))), (("lettings" : St9), (sV9 (a0_4 : Int))), (("told" : St9), (sO9 (cL9 ((a0_5 : List J.Hap).map sV9))))]))]⟩ : J.Stt) _ (J.fend B (F_Plan_take_turn (W)) ⟨p0, a1, a0_0, a0_1, a0_2, a0_3, a0_4, a0_5, r0⟩)
  refine J.js_set (hN := hN) 2 J.je_int ?_
  obtain ⟨s8, hs8, h⟩ := J.bndE h
  refine J.js_whileE (π := Unit) (c := m_Plan_take_turn_t0 a1 a0_2) (f := m_Plan_take_turn_w1 a1 a0_1 a0_2 a0_4) (Sf := fun (q2 : Unit) (s1 : ((List (Int × ((List Int) × (Int × (Int × ((List (Int × Bool)) × ((Option Int) × (Int × Int)))))))) × ((List Int) × ((List J.Hap) × Int)))) => (⟨[(sR9 (.ref p0)), (J.refS W.qs (a1 : Int)), (sV9 (s1.2.2.2 : Int))], [(p0, (cI9 W.C_Plan [(("jobs" : St9), (sO9 (J.mlA (Cs0 W) W.qs (s1.1 : (List (Int × ((List Int) × (Int × (Int × ((List (Int × Bool)) × ((Option Int) × (Int × Int)))))))))))), (("frames_there" : St9), (sV9 (a0_1 : Int))), (("turn" : St9), (sV9 (a0_2 : Int))), (("waiting" : St9), (sO9 (cL9 ((s1.2.1 : List Int).map (J.refS W.qs))))), (("lettings" : St9), (sV9 (a0_4 : Int))), (("told" : St9), (sO9 (cL9 ((s1.2.2.1 : List J.Hap).map sV9))))]))]⟩ : J.Stt)) hs8 (fun _ _ _ _ g => ⟨(), J.le_fgt (sl := [(sR9 (.ref p0)), (J.refS W.qs (a1 : Int)), (sV9 ((a0_0, (a0_3, (a0_5, 0))).2.2.2 : Int))]) (cs := [(p0, (cI9 W.C_Plan [(("jobs" : St9), (sO9 (J.mlA (Cs0 W) W.qs ((a0_0, (a0_3, (a0_5, 0))).1 : (List (Int × ((List Int) × (Int × (Int × ((List (Int × Bool)) × ((Option Int) × (Int × Int)))))))))))), (("frames_there" : St9), (sV9 (a0_1 : Int))), (("turn" : St9), (sV9 (a0_2 : Int))), (("waiting" : St9), (sO9 (cL9 (((a0_0, (a0_3, (a0_5, 0))).2.1 : List Int).map (J.refS W.qs))))), (("lettings" : St9), (sV9 (a0_4 : Int))), (("told" : St9), (sO9 (cL9 (((a0_0, (a0_3, (a0_5, 0))).2.2.1 : List J.Hap).map sV9))))]))]) 1 (.keep (.keep (.keep .nil))) rfl _ _ _ _ g⟩) (fun q2 s1 p h => ?_) (fun q2 s1 sY _ h => ?_) (fun q2 => ?_)
  · unfold m_Plan_take_turn_t0 at h
    obtain ⟨x6, hx6, h⟩ := J.bndE h
    have h9 := Option.some.inj h
    subst h9
    exact (J.JW.t (J.jw_andM hx6 (J.jt_lt (J.je_var 2 rfl) (J.je_fget 0 W.cl_Plan W.na_Plan_turn (J.je_var 0 rfl) rfl rfl)) fun _ r h => by
      obtain ⟨x4, hx4, h⟩ := J.bndE h
      obtain ⟨x5, hx5, h⟩ := J.bndE h
      have h9 := Option.some.inj h
      subst h9
      exact (J.jw_and1 (J.jt_bl (J.je_atPart 0 0 rfl rfl J.mlA_ng (fun _ => rfl) (fun _ => rfl) fun p3 => (J.je_atRf (f := Cs0 W) (xs := (s1.1 : (List (Int × ((List Int) × (Int × (Int × ((List (Int × Bool)) × ((Option Int) × (Int × Int)))))))))) (qs := W.qs) (n := a1) 1 2 hx4 rfl rfl (NGCs0 W) (J.je_mth0 (fr := F_Job_is_on W) 2 W.cl_Job W.m_Job_is_on (ok_Job_is_on W) hr (by decide) W.b_Job_is_on (J.je_var 1 rfl) rfl rfl (g := (⟨(W.qs.getD (a1).toNat 0), x4.1, x4.2.1, x4.2.2.1, x4.2.2.2.1, x4.2.2.2.2.1, x4.2.2.2.2.2.1, x4.2.2.2.2.2.2.1, x4.2.2.2.2.2.2.2, x5⟩ : G_Job_is_on)) hx5 rfl (.cons 2 rfl (by nofun) .nil) (.cons 2 rfl .nil) (hG := fun G e => trivial))))))))
  · unfold m_Plan_take_turn_w1 at h
    change J.JS _ _ (⟨[(sR9 (.ref p0)), (J.refS W.qs (a1 : Int)), (sV9 (s1.2.2.2 : Int))], [(p0, (cI9 W.C_Plan [(("jobs" : St9), (sO9 (J.mlA (Cs0 W) W.qs (s1.1 : (List (Int × ((List Int) × (Int × (Int × ((List (Int × Bool)) × ((Option Int) × (Int × Int)))))))))))), (("frames_there" : St9), (sV9 (a0_1 : Int))), (("turn" : St9), (sV9 (a0_2 : Int))), (("waiting" : St9), (sO9 (cL9 ((s1.2.1 : List Int).map (J.refS W.qs))))), (("lettings" : St9), (sV9 (a0_4 : Int))), (("told" : St9), (sO9 (cL9 ((s1.2.2.1 : List J.Hap).map sV9))))]))]⟩ : J.Stt) _ _
    obtain ⟨x7, hx7, h⟩ := J.bndE h
    refine J.js_expr (J.je_mth (fr := F_Plan_request W) 0 W.cl_Plan W.m_Plan_request (ok_Plan_request W) hr (by decide) W.b_Plan_request (J.je_var 0 rfl) rfl rfl (J.ja_cons (J.je_var 1 rfl) J.ja_nil) (g := (⟨p0, a1, s1.1, a0_1, a0_2, s1.2.1, a0_4, s1.2.2.1, x7⟩ : G_Plan_request)) hx7 rfl (.cons 0 rfl (by nofun) .nil) (.cons 0 rfl .nil) (hG := fun G e => trivial)) ?_
    change J.JS _ _ (⟨[(sR9 (.ref p0)), (J.refS W.qs (a1 : Int)), (sV9 (s1.2.2.2 : Int))], [(p0, (cI9 W.C_Plan [(("jobs" : St9), (sO9 (J.mlA (Cs0 W) W.qs (x7.1 : (List (Int × ((List Int) × (Int × (Int × ((List (Int × Bool)) × ((Option Int) × (Int × Int)))))))))))), (("frames_there" : St9), (sV9 (a0_1 : Int))), (("turn" : St9), (sV9 (a0_2 : Int))), (("waiting" : St9), (sO9 (cL9 ((x7.2.1 : List Int).map (J.refS W.qs))))), (("lettings" : St9), (sV9 (a0_4 : Int))), (("told" : St9), (sO9 (cL9 ((x7.2.2 : List J.Hap).map sV9))))]))]⟩ : J.Stt) _ _
    refine J.js_augI (hN := hN) 2 L2.ip_add rfl J.je_int ?_
    change J.JS _ _ (⟨[(sR9 (.ref p0)), (J.refS W.qs (a1 : Int)), (sV9 ((s1.2.2.2 + 1) : Int))], [(p0, (cI9 W.C_Plan [(("jobs" : St9), (sO9 (J.mlA (Cs0 W) W.qs (x7.1 : (List (Int × ((List Int) × (Int × (Int × ((List (Int × Bool)) × ((Option Int) × (Int × Int)))))))))))), (("frames_there" : St9), (sV9 (a0_1 : Int))), (("turn" : St9), (sV9 (a0_2 : Int))), (("waiting" : St9), (sO9 (cL9 ((x7.2.1 : List Int).map (J.refS W.qs))))), (("lettings" : St9), (sV9 (a0_4 : Int))), (("told" : St9), (sO9 (cL9 ((x7.2.2 : List J.Hap).map sV9))))]))]⟩ : J.Stt) _ _
    have h9 := Option.some.inj h
    subst h9
    exact J.js_nil fun T tv σ H g => ⟨(), J.le_fgt (sl := [(sR9 (.ref p0)), (J.refS W.qs (a1 : Int)), (sV9 ((x7.1, (x7.2.1, (x7.2.2, (s1.2.2.2 + 1)))).2.2.2 : Int))]) (cs := [(p0, (cI9 W.C_Plan [(("jobs" : St9), (sO9 (J.mlA (Cs0 W) W.qs ((x7.1, (x7.2.1, (x7.2.2, (s1.2.2.2 + 1)))).1 : (List (Int × ((List Int) × (Int × (Int × ((List (Int × Bool)) × ((Option Int) × (Int × Int)))))))))))), (("frames_there" : St9), (sV9 (a0_1 : Int))), (("turn" : St9), (sV9 (a0_2 : Int))), (("waiting" : St9), (sO9 (cL9 (((x7.1, (x7.2.1, (x7.2.2, (s1.2.2.2 + 1)))).2.1 : List Int).map (J.refS W.qs))))), (("lettings" : St9), (sV9 (a0_4 : Int))), (("told" : St9), (sO9 (cL9 (((x7.1, (x7.2.1, (x7.2.2, (s1.2.2.2 + 1)))).2.2.1 : List J.Hap).map sV9))))]))]) 1 (.keep (.keep (.keep .nil))) rfl _ _ _ _ g⟩
  change J.JS _ _ (⟨[(sR9 (.ref p0)), (J.refS W.qs (a1 : Int)), (sV9 (s8.2.2.2 : Int))], [(p0, (cI9 W.C_Plan [(("jobs" : St9), (sO9 (J.mlA (Cs0 W) W.qs (s8.1 : (List (Int × ((List Int) × (Int × (Int × ((List (Int × Bool)) × ((Option Int) × (Int × Int)))))))))))), (("frames_there" : St9), (sV9 (a0_1 : Int))), (("turn" : St9), (sV9 (a0_2 : Int))), (("waiting" : St9), (sO9 (cL9 ((s8.2.1 : List Int).map (J.refS W.qs))))), (("lettings" : St9), (sV9 (a0_4 : Int))), (("told" : St9), (sO9 (cL9 ((s8.2.2.1 : List J.Hap).map sV9))))]))]⟩ : J.Stt) _ _
  have h9 := Option.some.inj h
  subst h9
  exact J.js_fin 1 rfl rfl
structure G_Plan_go where
  p0 : PySem.Addr
  a0_0 : (List (Int × ((List Int) × (Int × (Int × ((List (Int × Bool)) × ((Option Int) × (Int × Int))))))))
  a0_1 : Int
  a0_2 : Int
  a0_3 : (List Int)
  a0_4 : Int
  a0_5 : (List J.Hap)
  out : ((List (Int × ((List Int) × (Int × (Int × ((List (Int × Bool)) × ((Option Int) × (Int × Int)))))))) × ((List Int) × (Int × (List J.Hap))))
abbrev R_Plan_go {K : PySem.W.Frag} {mg : Str → Option Value} (W : Wd K mg) (r : ((List (Int × ((List Int) × (Int × (Int × ((List (Int × Bool)) × ((Option Int) × (Int × Int)))))))) × ((List Int) × (Int × (List J.Hap))))) : J.Slot := (sR9 .non)
abbrev C_Plan_go {K : PySem.W.Frag} {mg : Str → Option Value} (W : Wd K mg) (p0 : PySem.Addr) (a0_0 : (List (Int × ((List Int) × (Int × (Int × ((List (Int × Bool)) × ((Option Int) × (Int × Int))))))))) (a0_1 : Int) (a0_2 : Int) (a0_3 : (List Int)) (a0_4 : Int) (a0_5 : (List J.Hap)) (r : ((List (Int × ((List Int) × (Int × (Int × ((List (Int × Bool)) × ((Option Int) × (Int × Int)))))))) × ((List Int) × (Int × (List J.Hap))))) : List (PySem.Addr × J.Cel) := [(p0, (cI9 W.C_Plan [(("jobs" : St9), (sO9 (J.mlA (Cs0 W) W.qs (r.1 : (List (Int × ((List Int) × (Int × (Int × ((List (Int × Bool)) × ((Option Int) × (Int × Int)))))))))))), (("frames_there" : St9), (sV9 (a0_1 : Int))), (("turn" : St9), (sV9 (a0_2 : Int))), (("waiting" : St9), (sO9 (cL9 ((r.2.1 : List Int).map (J.refS W.qs))))), (("lettings" : St9), (sV9 (r.2.2.1 : Int))), (("told" : St9), (sO9 (cL9 ((r.2.2.2 : List J.Hap).map sV9))))]))]
abbrev A_Plan_go {K : PySem.W.Frag} {mg : Str → Option Value} (W : Wd K mg) (p0 : PySem.Addr) (a0_0 : (List (Int × ((List Int) × (Int × (Int × ((List (Int × Bool)) × ((Option Int) × (Int × Int))))))))) (a0_1 : Int) (a0_2 : Int) (a0_3 : (List Int)) (a0_4 : Int) (a0_5 : (List J.Hap)) : List J.Slot := [(sR9 (.ref p0))]
abbrev D_Plan_go {K : PySem.W.Frag} {mg : Str → Option Value} (W : Wd K mg) (p0 : PySem.Addr) (a0_0 : (List (Int × ((List Int) × (Int × (Int × ((List (Int × Bool)) × ((Option Int) × (Int × Int))))))))) (a0_1 : Int) (a0_2 : Int) (a0_3 : (List Int)) (a0_4 : Int) (a0_5 : (List J.Hap)) : List (PySem.Addr × J.Cel) := [(p0, (cI9 W.C_Plan [(("jobs" : St9), (sO9 (J.mlA (Cs0 W) W.qs (a0_0 : (List (Int × ((List Int) × (Int × (Int × ((List (Int × Bool)) × ((Option Int) × (Int × Int)))))))))))), (("frames_there" : St9), (sV9 (a0_1 : Int))), (("turn" : St9), (sV9 (a0_2 : Int))), (("waiting" : St9), (sO9 (cL9 ((a0_3 : List Int).map (J.refS W.qs))))), (("lettings" : St9), (sV9 (a0_4 : Int))), (("told" : St9), (sO9 (cL9 ((a0_5 : List J.Hap).map sV9))))]))]
def F_Plan_go {K : PySem.W.Frag} {mg : Str → Option Value} (W : Wd K mg)  : J.FS G_Plan_go where
  pre := fun g => m_Plan_go g.a0_0 g.a0_1 g.a0_2 g.a0_3 g.a0_4 g.a0_5 = some g.out
  preG := fun _ _ => True
  args := fun g => A_Plan_go W g.p0 g.a0_0 g.a0_1 g.a0_2 g.a0_3 g.a0_4 g.a0_5
  cells := fun g => D_Plan_go W g.p0 g.a0_0 g.a0_1 g.a0_2 g.a0_3 g.a0_4 g.a0_5
  res := fun g => R_Plan_go W g.out
  cells' := fun g => C_Plan_go W g.p0 g.a0_0 g.a0_1 g.a0_2 g.a0_3 g.a0_4 g.a0_5 g.out
theorem ok_Plan_go (W : Wd K mg) : FnOk P w K mg base CX0 6 W.a_Plan_go W.d_Plan_go ["self"] (F_Plan_go (W)).sp := by
  refine J.fn_okD (F_Plan_go (W)) W.F_Plan_go sc_Plan_go (fun g => rfl) (fun g => by intro s hs; simp only [F_Plan_go, List.mem_cons, List.not_mem_nil, or_false] at hs; rcases hs with rfl <;> first | rfl | exact J.xsl_plain) (fun cdv A outer s H E hr B g h hG => ?_)
  have hN := (sc_Plan_go).nd
  obtain ⟨p0, a0_0, a0_1, a0_2, a0_3, a0_4, a0_5, r0⟩ := g
  change m_Plan_go a0_0 a0_1 a0_2 a0_3 a0_4 a0_5 = some r0 at h
  unfold m_Plan_go at h
  change J.JS _ B (⟨[(sR9 (.ref p0)), sA9], [(p0, (cI9 W.C_Plan [(("jobs" : St9), (sO9 (J.mlA (Cs0 W) W.qs (a0_0 : (List (Int × ((List Int) × (Int × (Int × ((List (Int × Bool)) × ((Option Int) × (Int × Int)))))))))))), (("frames_there" : St9), (sV9 (a0_1 : Int))), (("turn" : St9), (sV9 (a0_2 : Int))), (("waiting" : St9), (sO9 (cL9 ((a0_3 : List Int).map (J.refS W.qs))))), (("lettings" : St9), (sV9 (a0_4 : Int))), (("told" : St9), (sO9 (cL9 ((a0_5 : List J.Hap).map sV9))))]))]⟩ : J.Stt) _ (J.fend B (F_Plan_go (W)) ⟨p0, a0_0, a0_1, a0_2, a0_3, a0_4, a0_5, r0⟩)
  obtain ⟨x1, hx1, h⟩ := J.bndE h
  refine J.js_expr (J.je_mth0 (fr := F_Plan_let_on W) 0 W.cl_Plan W.m_Plan_let_on (ok_Plan_let_on W) hr (by decide) W.b_Plan_let_on (J.je_var 0 rfl) rfl rfl (g := (⟨p0, a0_0, a0_1, a0_2, a0_3, a0_4, a0_5, x1⟩ : G_Plan_let_on)) hx1 rfl (.cons 0 rfl (by nofun) .nil) (.cons 0 rfl .nil) (hG := fun G e => trivial)) ?_
  change J.JS _ _ (⟨[(sR9 (.ref p0)), sA9], [(p0, (cI9 W.C_Plan [(("jobs" : St9), (sO9 (J.mlA (Cs0 W) W.qs (x1.1 : (List (Int × ((List Int) × (Int × (Int × ((List (Int × Bool)) × ((Option Int) × (Int × Int)))))))))))), (("frames_there" : St9), (sV9 (a0_1 : Int))), (("turn" : St9), (sV9 (a0_2 : Int))), (("waiting" : St9), (sO9 (cL9 ((x1.2.1 : List Int).map (J.refS W.qs))))), (("lettings" : St9), (sV9 (x1.2.2.1 : Int))), (("told" : St9), (sO9 (cL9 ((x1.2.2.2 : List J.Hap).map sV9))))]))]⟩ : J.Stt) _ _
  obtain ⟨s16, hs16, h⟩ := J.bndE h
  refine J.js_whileE (π := Unit) (c := m_Plan_go_t1 a0_1 a0_2) (f := m_Plan_go_w2 a0_1 a0_2) (Sf := fun (q3 : Unit) (s2 : ((List (Int × ((List Int) × (Int × (Int × ((List (Int × Bool)) × ((Option Int) × (Int × Int)))))))) × ((List Int) × (Int × (List J.Hap))))) => (⟨[(sR9 (.ref p0)), sA9], [(p0, (cI9 W.C_Plan [(("jobs" : St9), (sO9 (J.mlA (Cs0 W) W.qs (s2.1 : (List (Int × ((List Int) × (Int × (Int × ((List (Int × Bool)) × ((Option Int) × (Int × Int)))))))))))), (("frames_there" : St9), (sV9 (a0_1 : Int))), (("turn" : St9), (sV9 (a0_2 : Int))), (("waiting" : St9), (sO9 (cL9 ((s2.2.1 : List Int).map (J.refS W.qs))))), (("lettings" : St9), (sV9 (s2.2.2.1 : Int))), (("told" : St9), (sO9 (cL9 ((s2.2.2.2 : List J.Hap).map sV9))))]))]⟩ : J.Stt)) hs16 (fun _ _ _ _ g => ⟨(), J.le_fgt (sl := [(sR9 (.ref p0)), sA9]) (cs := [(p0, (cI9 W.C_Plan [(("jobs" : St9), (sO9 (J.mlA (Cs0 W) W.qs ((x1.1, (x1.2.1, (x1.2.2.1, x1.2.2.2))).1 : (List (Int × ((List Int) × (Int × (Int × ((List (Int × Bool)) × ((Option Int) × (Int × Int)))))))))))), (("frames_there" : St9), (sV9 (a0_1 : Int))), (("turn" : St9), (sV9 (a0_2 : Int))), (("waiting" : St9), (sO9 (cL9 (((x1.1, (x1.2.1, (x1.2.2.1, x1.2.2.2))).2.1 : List Int).map (J.refS W.qs))))), (("lettings" : St9), (sV9 ((x1.1, (x1.2.1, (x1.2.2.1, x1.2.2.2))).2.2.1 : Int))), (("told" : St9), (sO9 (cL9 (((x1.1, (x1.2.1, (x1.2.2.1, x1.2.2.2))).2.2.2 : List J.Hap).map sV9))))]))]) 1 (.keep (.drop .nil)) rfl _ _ _ _ g⟩) (fun q3 s2 p h => ?_) (fun q3 s2 sY _ h => ?_) (fun q3 => ?_)
  · unfold m_Plan_go_t1 at h
    obtain ⟨x4, hx4, h⟩ := J.bndE h
    have h9 := Option.some.inj h
    subst h9
    exact (J.jt_neNilR (ks := x4) (qs := W.qs) hr (J.je_mth0 (fr := F_Plan_on_now W) 0 W.cl_Plan W.m_Plan_on_now (ok_Plan_on_now W) hr (by decide) W.b_Plan_on_now (J.je_var 0 rfl) rfl rfl (g := (⟨p0, s2.1, a0_1, a0_2, s2.2.1, s2.2.2.1, s2.2.2.2, x4⟩ : G_Plan_on_now)) hx4 rfl (.cons 0 rfl (by nofun) .nil) (.cons 0 rfl .nil) (hG := fun G e => trivial)) J.lv_refsO)
  · unfold m_Plan_go_w2 at h
    change J.JS _ _ (⟨[(sR9 (.ref p0)), sA9], [(p0, (cI9 W.C_Plan [(("jobs" : St9), (sO9 (J.mlA (Cs0 W) W.qs (s2.1 : (List (Int × ((List Int) × (Int × (Int × ((List (Int × Bool)) × ((Option Int) × (Int × Int)))))))))))), (("frames_there" : St9), (sV9 (a0_1 : Int))), (("turn" : St9), (sV9 (a0_2 : Int))), (("waiting" : St9), (sO9 (cL9 ((s2.2.1 : List Int).map (J.refS W.qs))))), (("lettings" : St9), (sV9 (s2.2.2.1 : Int))), (("told" : St9), (sO9 (cL9 ((s2.2.2.2 : List J.Hap).map sV9))))]))]⟩ : J.Stt) _ _
    obtain ⟨x5, hx5, h⟩ := J.bndE h
    obtain ⟨s14, hs14, h⟩ := J.bndE h
    refine J.js_forEV (π := Unit) (ei := J.refS W.qs) (f := m_Plan_go_b0 a0_1 a0_2 s2) (Sf := fun (q7 : Unit) (s6 : ((List (Int × ((List Int) × (Int × (Int × ((List (Int × Bool)) × ((Option Int) × (Int × Int)))))))) × ((List Int) × (List J.Hap)))) => (⟨[(sR9 (.ref p0)), sA9], [(p0, (cI9 W.C_Plan [(("jobs" : St9), (sO9 (J.mlA (Cs0 W) W.qs (s6.1 : (List (Int × ((List Int) × (Int × (Int × ((List (Int × Bool)) × ((Option Int) × (Int × Int)))))))))))), (("frames_there" : St9), (sV9 (a0_1 : Int))), (("turn" : St9), (sV9 (a0_2 : Int))), (("waiting" : St9), (sO9 (cL9 ((s6.2.1 : List Int).map (J.refS W.qs))))), (("lettings" : St9), (sV9 (s2.2.2.1 : Int))), (("told" : St9), (sO9 (cL9 ((s6.2.2 : List J.Hap).map sV9))))]))]⟩ : J.Stt)) (Sb := fun (q7 : Unit) (s6 : ((List (Int × ((List Int) × (Int × (Int × ((List (Int × Bool)) × ((Option Int) × (Int × Int)))))))) × ((List Int) × (List J.Hap)))) (x8 : Int) => (⟨[(sR9 (.ref p0)), (J.refS W.qs (x8 : Int))], [(p0, (cI9 W.C_Plan [(("jobs" : St9), (sO9 (J.mlA (Cs0 W) W.qs (s6.1 : (List (Int × ((List Int) × (Int × (Int × ((List (Int × Bool)) × ((Option Int) × (Int × Int)))))))))))), (("frames_there" : St9), (sV9 (a0_1 : Int))), (("turn" : St9), (sV9 (a0_2 : Int))), (("waiting" : St9), (sO9 (cL9 ((s6.2.1 : List Int).map (J.refS W.qs))))), (("lettings" : St9), (sV9 (s2.2.2.1 : Int))), (("told" : St9), (sO9 (cL9 ((s6.2.2 : List J.Hap).map sV9))))]))]⟩ : J.Stt)) hs14 (J.ji_refs (ks := x5) (qs := W.qs) (ok := fun _ => True) (J.je_mth0 (fr := F_Plan_on_now W) 0 W.cl_Plan W.m_Plan_on_now (ok_Plan_on_now W) hr (by decide) W.b_Plan_on_now (J.je_var 0 rfl) rfl rfl (g := (⟨p0, s2.1, a0_1, a0_2, s2.2.1, s2.2.2.1, s2.2.2.2, x5⟩ : G_Plan_on_now)) hx5 rfl (.cons 0 rfl (by nofun) .nil) (.cons 0 rfl .nil) (hG := fun G e => trivial)) J.lv_refsO (fun _ _ => J.lv_refsO)) (fun _ _ _ _ g => ⟨(), J.le_fgt (sl := [(sR9 (.ref p0)), sA9]) (cs := [(p0, (cI9 W.C_Plan [(("jobs" : St9), (sO9 (J.mlA (Cs0 W) W.qs ((s2.1, (s2.2.1, s2.2.2.2)).1 : (List (Int × ((List Int) × (Int × (Int × ((List (Int × Bool)) × ((Option Int) × (Int × Int)))))))))))), (("frames_there" : St9), (sV9 (a0_1 : Int))), (("turn" : St9), (sV9 (a0_2 : Int))), (("waiting" : St9), (sO9 (cL9 (((s2.1, (s2.2.1, s2.2.2.2)).2.1 : List Int).map (J.refS W.qs))))), (("lettings" : St9), (sV9 (s2.2.2.1 : Int))), (("told" : St9), (sO9 (cL9 (((s2.1, (s2.2.1, s2.2.2.2)).2.2 : List J.Hap).map sV9))))]))]) 1 (.keep (.drop .nil)) rfl _ _ _ _ g⟩) (fun _ _ => trivial) (fun q7 s6 x8 => (J.jg_name 1 (hN := hN))) (fun q7 s6 x8 sY _ h => ?_) (fun q7 => ?_)
    · unfold m_Plan_go_b0 at h
      change J.JS _ _ (⟨[(sR9 (.ref p0)), (J.refS W.qs (x8 : Int))], [(p0, (cI9 W.C_Plan [(("jobs" : St9), (sO9 (J.mlA (Cs0 W) W.qs (s6.1 : (List (Int × ((List Int) × (Int × (Int × ((List (Int × Bool)) × ((Option Int) × (Int × Int)))))))))))), (("frames_there" : St9), (sV9 (a0_1 : Int))), (("turn" : St9), (sV9 (a0_2 : Int))), (("waiting" : St9), (sO9 (cL9 ((s6.2.1 : List Int).map (J.refS W.qs))))), (("lettings" : St9), (sV9 (s2.2.2.1 : Int))), (("told" : St9), (sO9 (cL9 ((s6.2.2 : List J.Hap).map sV9))))]))]⟩ : J.Stt) _ _
      obtain ⟨x13, hx13, h⟩ := J.bndE h
      refine J.js_expr (J.je_mth (fr := F_Plan_take_turn W) 0 W.cl_Plan W.m_Plan_take_turn (ok_Plan_take_turn W) hr (by decide) W.b_Plan_take_turn (J.je_var 0 rfl) rfl rfl (J.ja_cons (J.je_var 1 rfl) J.ja_nil) (g := (⟨p0, x8, s6.1, a0_1, a0_2, s6.2.1, s2.2.2.1, s6.2.2, x13⟩ : G_Plan_take_turn)) hx13 rfl (.cons 0 rfl (by nofun) .nil) (.cons 0 rfl .nil) (hG := fun G e => trivial)) ?_
      change J.JS _ _ (⟨[(sR9 (.ref p0)), (J.refS W.qs (x8 : Int))], [(p0, (cI9 W.C_Plan [(("jobs" : St9), (sO9 (J.mlA (Cs0 W) W.qs (x13.1 : (List (Int × ((List Int) × (Int × (Int × ((List (Int × Bool)) × ((Option Int) × (Int × Int)))))))))))), (("frames_there" : St9), (sV9 (a0_1 : Int))), (("turn" : St9), (sV9 (a0_2 : Int))), (("waiting" : St9), (sO9 (cL9 ((x13.2.1 : List Int).map (J.refS W.qs))))), (("lettings" : St9), (sV9 (s2.2.2.1 : Int))), (("told" : St9), (sO9 (cL9 ((x13.2.2 : List J.Hap).map sV9))))]))]⟩ : J.Stt) _ _
      have h9 := Option.some.inj h
      subst h9
      exact J.js_nil fun T tv σ H g => ⟨(), J.le_fgt (sl := [(sR9 (.ref p0)), sA9]) (cs := [(p0, (cI9 W.C_Plan [(("jobs" : St9), (sO9 (J.mlA (Cs0 W) W.qs ((x13.1, (x13.2.1, x13.2.2)).1 : (List (Int × ((List Int) × (Int × (Int × ((List (Int × Bool)) × ((Option Int) × (Int × Int)))))))))))), (("frames_there" : St9), (sV9 (a0_1 : Int))), (("turn" : St9), (sV9 (a0_2 : Int))), (("waiting" : St9), (sO9 (cL9 (((x13.1, (x13.2.1, x13.2.2)).2.1 : List Int).map (J.refS W.qs))))), (("lettings" : St9), (sV9 (s2.2.2.1 : Int))), (("told" : St9), (sO9 (cL9 (((x13.1, (x13.2.1, x13.2.2)).2.2 : List J.Hap).map sV9))))]))]) 1 (.keep (.drop .nil)) rfl _ _ _ _ g⟩
    change J.JS _ _ (⟨[(sR9 (.ref p0)), sA9], [(p0, (cI9 W.C_Plan [(("jobs" : St9), (sO9 (J.mlA (Cs0 W) W.qs (s14.1 : (List (Int × ((List Int) × (Int × (Int × ((List (Int × Bool)) × ((Option Int) × (Int × Int)))))))))))), (("frames_there" : St9), (sV9 (a0_1 : Int))), (("turn" : St9), (sV9 (a0_2 : Int))), (("waiting" : St9), (sO9 (cL9 ((s14.2.1 : List Int).map (J.refS W.qs))))), (("lettings" : St9), (sV9 (s2.2.2.1 : Int))), (("told" : St9), (sO9 (cL9 ((s14.2.2 : List J.Hap).map sV9))))]))]⟩ : J.Stt) _ _
    obtain ⟨x15, hx15, h⟩ := J.bndE h
    refine J.js_expr (J.je_mth0 (fr := F_Plan_let_on W) 0 W.cl_Plan W.m_Plan_let_on (ok_Plan_let_on W) hr (by decide) W.b_Plan_let_on (J.je_var 0 rfl) rfl rfl (g := (⟨p0, s14.1, a0_1, a0_2, s14.2.1, s2.2.2.1, s14.2.2, x15⟩ : G_Plan_let_on)) hx15 rfl (.cons 0 rfl (by nofun) .nil) (.cons 0 rfl .nil) (hG := fun G e => trivial)) ?_
    change J.JS _ _ (⟨[(sR9 (.ref p0)), sA9], [(p0, (cI9 W.C_Plan [(("jobs" : St9), (sO9 (J.mlA (Cs0 W) W.qs (x15.1 : (List (Int × ((List Int) × (Int × (Int × ((List (Int × Bool)) × ((Option Int) × (Int × Int)))))))))))), (("frames_there" : St9), (sV9 (a0_1 : Int))), (("turn" : St9), (sV9 (a0_2 : Int))), (("waiting" : St9), (sO9 (cL9 ((x15.2.1 : List Int).map (J.refS W.qs))))), (("lettings" : St9), (sV9 (x15.2.2.1 : Int))), (("told" : St9), (sO9 (cL9 ((x15.2.2.2 : List J.Hap).map sV9))))]))]⟩ : J.Stt) _ _
    have h9 := Option.some.inj h
    subst h9
    exact J.js_nil fun T tv σ H g => ⟨(), J.le_fgt (sl := [(sR9 (.ref p0)), sA9]) (cs := [(p0, (cI9 W.C_Plan [(("jobs" : St9), (sO9 (J.mlA (Cs0 W) W.qs ((x15.1, (x15.2.1, (x15.2.2.1, x15.2.2.2))).1 : (List (Int × ((List Int) × (Int × (Int × ((List (Int × Bool)) × ((Option Int) × (Int × Int)))))))))))), (("frames_there" : St9), (sV9 (a0_1 : Int))), (("turn" : St9), (sV9 (a0_2 : Int))), (("waiting" : St9), (sO9 (cL9 (((x15.1, (x15.2.1, (x15.2.2.1, x15.2.2.2))).2.1 : List Int).map (J.refS W.qs))))), (("lettings" : St9), (sV9 ((x15.1, (x15.2.1, (x15.2.2.1, x15.2.2.2))).2.2.1 : Int))), (("told" : St9), (sO9 (cL9 (((x15.1, (x15.2.1, (x15.2.2.1, x15.2.2.2))).2.2.2 : List J.Hap).map sV9))))]))]) 1 (.keep (.drop .nil)) rfl _ _ _ _ g⟩
  change J.JS _ _ (⟨[(sR9 (.ref p0)), sA9], [(p0, (cI9 W.C_Plan [(("jobs" : St9), (sO9 (J.mlA (Cs0 W) W.qs (s16.1 : (List (Int × ((List Int) × (Int × (Int × ((List (Int × Bool)) × ((Option Int) × (Int × Int)))))))))))), (("frames_there" : St9), (sV9 (a0_1 : Int))), (("turn" : St9), (sV9 (a0_2 : Int))), (("waiting" : St9), (sO9 (cL9 ((s16.2.1 : List Int).map (J.refS W.qs))))), (("lettings" : St9), (sV9 (s16.2.2.1 : Int))), (("told" : St9), (sO9 (cL9 ((s16.2.2.2 : List J.Hap).map sV9))))]))]⟩ : J.Stt) _ _
  have h9 := Option.some.inj h
  subst h9
  exact J.js_fin 1 rfl rfl
structure G_played where
  a0 : (List ((List Int) × Int))
  a1 : Int
  a2 : Int
  out : ((List (Int × ((List Int) × (Int × (Int × ((List (Int × Bool)) × ((Option Int) × (Int × Int)))))))) × (Int × (Int × ((List Int) × (Int × (List J.Hap))))))
abbrev R_played {K : PySem.W.Frag} {mg : Str → Option Value} (W : Wd K mg) (r : ((List (Int × ((List Int) × (Int × (Int × ((List (Int × Bool)) × ((Option Int) × (Int × Int)))))))) × (Int × (Int × ((List Int) × (Int × (List J.Hap))))))) : J.Slot := (sO9 (J.Cel.ex fun qs9 => (fun (W : Wd K mg) => (cI9 W.C_Plan [(("jobs" : St9), (sO9 (J.mlA (Cs0 W) W.qs (r.1 : (List (Int × ((List Int) × (Int × (Int × ((List (Int × Bool)) × ((Option Int) × (Int × Int)))))))))))), (("frames_there" : St9), (sV9 (r.2.1 : Int))), (("turn" : St9), (sV9 (r.2.2.1 : Int))), (("waiting" : St9), (sO9 (cL9 ((r.2.2.2.1 : List Int).map (J.refS W.qs))))), (("lettings" : St9), (sV9 (r.2.2.2.2.1 : Int))), (("told" : St9), (sO9 (cL9 ((r.2.2.2.2.2 : List J.Hap).map sV9))))])) { W with qs := qs9 }))
abbrev C_played {K : PySem.W.Frag} {mg : Str → Option Value} (W : Wd K mg) (a0 : (List ((List Int) × Int))) (a1 : Int) (a2 : Int) (r : ((List (Int × ((List Int) × (Int × (Int × ((List (Int × Bool)) × ((Option Int) × (Int × Int)))))))) × (Int × (Int × ((List Int) × (Int × (List J.Hap))))))) : List (PySem.Addr × J.Cel) := []
abbrev A_played {K : PySem.W.Frag} {mg : Str → Option Value} (W : Wd K mg) (a0 : (List ((List Int) × Int))) (a1 : Int) (a2 : Int) : List J.Slot := [(sV9 (a0 : (List ((List Int) × Int)))), (sV9 (a1 : Int)), (sV9 (a2 : Int))]
abbrev D_played {K : PySem.W.Frag} {mg : Str → Option Value} (W : Wd K mg) (a0 : (List ((List Int) × Int))) (a1 : Int) (a2 : Int) : List (PySem.Addr × J.Cel) := []
def F_played {K : PySem.W.Frag} {mg : Str → Option Value} (W : Wd K mg)  : J.FS G_played where
  pre := fun g => m_played g.a0 g.a1 g.a2 = some g.out
  preG := fun _ _ => True
  args := fun g => A_played W g.a0 g.a1 g.a2
  cells := fun g => D_played W g.a0 g.a1 g.a2
  res := fun g => R_played W g.out
  cells' := fun g => C_played W g.a0 g.a1 g.a2 g.out
theorem ok_played (W : Wd K mg) : FnOk P w K mg base CX0 7 W.a_played W.d_played ["jobs", "frames", "turn"] (F_played (W)).sp := by
  refine J.fn_okD (F_played (W)) W.F_played sc_played (fun g => rfl) (fun g => by intro s hs; simp only [F_played, List.mem_cons, List.not_mem_nil, or_false] at hs; rcases hs with rfl | rfl | rfl <;> first | rfl | exact J.xsl_plain) (fun cdv A outer s H E hr B g h hG => ?_)
  have hN := (sc_played).nd
  obtain ⟨a0, a1, a2, r0⟩ := g
  change m_played a0 a1 a2 = some r0 at h
  unfold m_played at h
  change J.JS _ B (⟨[(sV9 (a0 : (List ((List Int) × Int)))), (sV9 (a1 : Int)), (sV9 (a2 : Int)), sA9, sA9, sA9, sA9], []⟩ : J.Stt) _ (J.fend B (F_played (W)) ⟨a0, a1, a2, r0⟩)
  obtain ⟨s9, hs9, h⟩ := J.bndE h
  refine J.js_forE (π := Unit) (f := m_played_b0) (Sf := fun (q2 : Unit) (s1 : Unit) => (⟨[(sV9 (a0 : (List ((List Int) × Int)))), (sV9 (a1 : Int)), (sV9 (a2 : Int)), sA9, sA9, sA9, sA9], []⟩ : J.Stt)) (Sb := fun (q2 : Unit) (s1 : Unit) (x3 : (Int × ((List Int) × Int))) => (⟨[(sV9 (a0 : (List ((List Int) × Int)))), (sV9 (a1 : Int)), (sV9 (a2 : Int)), sA9, (sV9 (x3.1 : Int)), (sV9 (x3.2.1 : (List Int))), (sV9 (x3.2.2 : Int))], []⟩ : J.Stt)) hs9 (J.ji_enum (xs := a0) (ok := fun _ => True) W.l_enumerate (J.je_var 0 rfl) J.lv_val (fun _ _ => J.lv_val)) (fun _ _ _ _ g => ⟨(), J.le_fgt (sl := [(sV9 (a0 : (List ((List Int) × Int)))), (sV9 (a1 : Int)), (sV9 (a2 : Int)), sA9, sA9, sA9, sA9]) (cs := []) 0 (.keep (.keep (.keep (.drop (.drop (.drop (.drop .nil))))))) rfl _ _ _ _ g⟩) (fun _ _ => trivial) (fun q2 s1 x3 => (J.jg_pair (J.jgs_cons (J.jg_name 4 (hN := hN)) (J.jgs_cons (J.jg_pair (J.jgs_cons (J.jg_name 5 (hN := hN)) (J.jgs_cons (J.jg_name 6 (hN := hN)) J.jgs_nil))) J.jgs_nil)))) (fun q2 s1 x3 sY _ h => ?_) (fun q2 => ?_)
  · unfold m_played_b0 at h
    change J.JS _ _ (⟨[(sV9 (a0 : (List ((List Int) × Int)))), (sV9 (a1 : Int)), (sV9 (a2 : Int)), sA9, (sV9 (x3.1 : Int)), (sV9 (x3.2.1 : (List Int))), (sV9 (x3.2.2 : Int))], []⟩ : J.Stt) _ _
    obtain ⟨x8, hx8, h⟩ := J.bndE h
    refine J.js_expr (J.je_call (f := F_need_window W) (ok_need_window W) hr (by decide) W.g_need_window W.F_need_window.kp W.b_need_window (J.ja_cons (J.je_var 6 rfl) (J.ja_cons (J.je_var 4 rfl) J.ja_nil)) (g := (⟨x3.2.2, x3.1, x8⟩ : G_need_window)) hx8 rfl .nil .nil (hG := fun G e => trivial)) ?_
    change J.JS _ _ (⟨[(sV9 (a0 : (List ((List Int) × Int)))), (sV9 (a1 : Int)), (sV9 (a2 : Int)), sA9, (sV9 (x3.1 : Int)), (sV9 (x3.2.1 : (List Int))), (sV9 (x3.2.2 : Int))], []⟩ : J.Stt) _ _
    have h9 := Option.some.inj h
    subst h9
    exact J.js_nil fun T tv σ H g => ⟨(), J.le_fgt (sl := [(sV9 (a0 : (List ((List Int) × Int)))), (sV9 (a1 : Int)), (sV9 (a2 : Int)), sA9, sA9, sA9, sA9]) (cs := []) 0 (.keep (.keep (.keep (.drop (.drop (.drop (.drop .nil))))))) rfl _ _ _ _ g⟩
  change J.JS _ _ (⟨[(sV9 (a0 : (List ((List Int) × Int)))), (sV9 (a1 : Int)), (sV9 (a2 : Int)), sA9, sA9, sA9, sA9], []⟩ : J.Stt) _ _
  obtain ⟨x13, hx13, h⟩ := J.bndE h
  refine J.js_if (J.jt_lt (J.je_var 1 rfl) (J.je_maxD (ns := x13.1) hr W.l_max (J.je_lc (f := m_played_c1) (el := sV9) (Sf := fun (s10 : Unit) => (⟨[(sV9 (a0 : (List ((List Int) × Int)))), (sV9 (a1 : Int)), (sV9 (a2 : Int)), sA9, sA9, sA9, sA9], []⟩ : J.Stt)) (Sb := fun (s10 : Unit) (x12 : ((List Int) × Int)) => (⟨[(sV9 (a0 : (List ((List Int) × Int)))), (sV9 (a1 : Int)), (sV9 (a2 : Int)), sA9, sA9, (sV9 (x12.1 : (List Int))), (sV9 (x12.2 : Int))], []⟩ : J.Stt)) (s0 := ()) (own := [(("trace" : St9), 5), (("window" : St9), 6)]) (ws := [5, 6]) (J.lcM_of hx13).2 (J.lcM_of hx13).1 hN (L2.blkOk_by (N := ["jobs", "frames", "turn", "plan", "number", "trace", "window"]) (sc := defScope s_played) (by decide +kernel)) (J.ji_val (xs := a0) (J.je_var 0 rfl)) (J.le_fgt 0 (.keep (.keep (.keep (.drop (.drop (.drop (.drop .nil))))))) rfl) (fun _ => trivial) (fun _ => J.any_at rfl) (by decide) (fun s10 x12 => fun s91 H91 C91 cl91 fp91 =>  J.inJG hN fun hN => (J.jg_pair (J.jgs_cons (J.jg_name 5 (hN := hN)) (J.jgs_cons (J.jg_name 6 (hN := hN)) J.jgs_nil)))) (fun s10 x12 o sZ _ h => by
      unfold m_played_c1 at h
      obtain ⟨h8, h9⟩ := Prod.mk.inj (Option.some.inj h)
      subst h8
      subst h9
      exact ⟨true, _, (fun s91 H91 C91 cl91 fp91 =>  J.jts_nil), fun _ => ⟨_, _, rfl, (fun s91 H91 C91 cl91 fp91 =>  J.inJE hr hN fun hr hN => (J.je_var 6 rfl)), (J.le_fgt 0 (.keep (.keep (.keep (.drop (.drop (.drop (.drop .nil))))))) rfl)⟩, nofun⟩)) J.je_int J.lv_own')) (fun hp => ?_) (fun hp => ?_)
  · replace h := J.ifT hp h
    exact nomatch h
  · replace h := J.ifF hp h
    refine J.js_end ?_
    change J.JS _ _ (⟨[(sV9 (a0 : (List ((List Int) × Int)))), (sV9 (a1 : Int)), (sV9 (a2 : Int)), sA9, sA9, sA9, sA9], []⟩ : J.Stt) _ _
    refine J.js_if (J.jt_lt (J.je_var 2 rfl) J.je_int) (fun hp => ?_) (fun hp => ?_)
    · replace h := J.ifT hp h
      exact nomatch h
    · replace h := J.ifF hp h
      refine J.js_end ?_
      change J.JS _ _ (⟨[(sV9 (a0 : (List ((List Int) × Int)))), (sV9 (a1 : Int)), (sV9 (a2 : Int)), sA9, sA9, sA9, sA9], []⟩ : J.Stt) _ _
      obtain ⟨x14, hx14, h⟩ := J.bndE h
      refine J.js_new (hN := hN) 3 (J.je_mkC (fr := F_Plan_init W) (c' := (J.Cel.ex fun qs9 => (fun (W : Wd K mg) => (cI9 W.C_Plan [(("jobs" : St9), (sO9 (J.mlA (Cs0 W) W.qs (x14.1 : (List (Int × ((List Int) × (Int × (Int × ((List (Int × Bool)) × ((Option Int) × (Int × Int)))))))))))), (("frames_there" : St9), (sV9 (x14.2.1 : Int))), (("turn" : St9), (sV9 (x14.2.2.1 : Int))), (("waiting" : St9), (sO9 (cL9 ((x14.2.2.2.1 : List Int).map (J.refS W.qs))))), (("lettings" : St9), (sV9 (x14.2.2.2.2.1 : Int))), (("told" : St9), (sO9 (cL9 ((x14.2.2.2.2.2 : List J.Hap).map sV9))))])) { W with qs := qs9 })) W.k_Plan_init (ok_Plan_init W) hr (by decide) W.gC_Plan W.b_Plan_init (J.ja_cons (J.je_var 0 rfl) (J.ja_cons (J.je_var 1 rfl) (J.ja_cons (J.je_var 2 rfl) J.ja_nil))) (fun p9 => (⟨p9, a0, a1, a2, x14⟩ : G_Plan_init)) (fun _ => hx14) (fun _ => rfl) (fun _ => rfl) (fun _ => rfl) (fun _ => rfl) (by nofun)) fun p15 => ?_
      change J.JS _ _ (⟨[(sV9 (a0 : (List ((List Int) × Int)))), (sV9 (a1 : Int)), (sV9 (a2 : Int)), (sR9 (.ref p15)), sA9, sA9, sA9], [(p15, (J.Cel.ex fun qs9 => (fun (W : Wd K mg) => (cI9 W.C_Plan [(("jobs" : St9), (sO9 (J.mlA (Cs0 W) W.qs (x14.1 : (List (Int × ((List Int) × (Int × (Int × ((List (Int × Bool)) × ((Option Int) × (Int × Int)))))))))))), (("frames_there" : St9), (sV9 (x14.2.1 : Int))), (("turn" : St9), (sV9 (x14.2.2.1 : Int))), (("waiting" : St9), (sO9 (cL9 ((x14.2.2.2.1 : List Int).map (J.refS W.qs))))), (("lettings" : St9), (sV9 (x14.2.2.2.2.1 : Int))), (("told" : St9), (sO9 (cL9 ((x14.2.2.2.2.2 : List J.Hap).map sV9))))])) { W with qs := qs9 }))]⟩ : J.Stt) _ _
      refine J.js_openX 0 rfl fun q16 => ?_
      let W : Wd K mg := { W with qs := q16 }
      change J.JS _ _ (⟨[(sV9 (a0 : (List ((List Int) × Int)))), (sV9 (a1 : Int)), (sV9 (a2 : Int)), (sR9 (.ref p15)), sA9, sA9, sA9], [(p15, (cI9 W.C_Plan [(("jobs" : St9), (sO9 (J.mlA (Cs0 W) W.qs (x14.1 : (List (Int × ((List Int) × (Int × (Int × ((List (Int × Bool)) × ((Option Int) × (Int × Int)))))))))))), (("frames_there" : St9), (sV9 (x14.2.1 : Int))), (("turn" : St9), (sV9 (x14.2.2.1 : Int))), (("waiting" : St9), (sO9 (cL9 ((x14.2.2.2.1 : List Int).map (J.refS W.qs))))), (("lettings" : St9), (sV9 (x14.2.2.2.2.1 : Int))), (("told" : St9), (sO9 (cL9 ((x14.2.2.2.2.2 : List J.Hap).map sV9))))]))]⟩ : J.Stt) _ _
      obtain ⟨x17, hx17, h⟩ := J.bndE h
      refine J.js_expr (J.je_mth0 (fr := F_Plan_go W) 0 W.cl_Plan W.m_Plan_go (ok_Plan_go W) hr (by decide) W.b_Plan_go (J.je_var 3 rfl) rfl rfl (g := (⟨p15, x14.1, x14.2.1, x14.2.2.1, x14.2.2.2.1, x14.2.2.2.2.1, x14.2.2.2.2.2, x17⟩ : G_Plan_go)) hx17 rfl (.cons 0 rfl (by nofun) .nil) (.cons 0 rfl .nil) (hG := fun G e => trivial)) ?_
      change J.JS _ _ (⟨[(sV9 (a0 : (List ((List Int) × Int)))), (sV9 (a1 : Int)), (sV9 (a2 : Int)), (sR9 (.ref p15)), sA9, sA9, sA9], [(p15, (cI9 W.C_Plan [(("jobs" : St9), (sO9 (J.mlA (Cs0 W) W.qs (x17.1 : (List (Int × ((List Int) × (Int × (Int × ((List (Int × Bool)) × ((Option Int) × (Int × Int)))))))))))), (("frames_there" : St9), (sV9 (x14.2.1 : Int))), (("turn" : St9), (sV9 (x14.2.2.1 : Int))), (("waiting" : St9), (sO9 (cL9 ((x17.2.1 : List Int).map (J.refS W.qs))))), (("lettings" : St9), (sV9 (x17.2.2.1 : Int))), (("told" : St9), (sO9 (cL9 ((x17.2.2.2 : List J.Hap).map sV9))))]))]⟩ : J.Stt) _ _
      have h9 := Option.some.inj h
      subst h9
      exact J.js_ret (J.je_own 0 (J.je_le (J.je_var 3 rfl) (J.le_hideX (f := fun qs9 => (fun (W : Wd K mg) => (cI9 W.C_Plan [(("jobs" : St9), (sO9 (J.mlA (Cs0 W) W.qs (x17.1 : (List (Int × ((List Int) × (Int × (Int × ((List (Int × Bool)) × ((Option Int) × (Int × Int)))))))))))), (("frames_there" : St9), (sV9 (x14.2.1 : Int))), (("turn" : St9), (sV9 (x14.2.2.1 : Int))), (("waiting" : St9), (sO9 (cL9 ((x17.2.1 : List Int).map (J.refS W.qs))))), (("lettings" : St9), (sV9 (x17.2.2.1 : Int))), (("told" : St9), (sO9 (cL9 ((x17.2.2.2 : List J.Hap).map sV9))))])) { W with qs := qs9 }) (qs := W.qs) 0 rfl (by nofun))) rfl) fun v H o => J.Out.take 0 o
structure G_story where
  a0 : (List ((List Int) × Int))
  a1 : Int
  a2 : Int
  out : (List J.Hap)
abbrev R_story {K : PySem.W.Frag} {mg : Str → Option Value} (W : Wd K mg) (r : (List J.Hap)) : J.Slot := (sO9 (cL9 ((r : List J.Hap).map sV9)))
abbrev C_story {K : PySem.W.Frag} {mg : Str → Option Value} (W : Wd K mg) (a0 : (List ((List Int) × Int))) (a1 : Int) (a2 : Int) (r : (List J.Hap)) : List (PySem.Addr × J.Cel) := []
abbrev A_story {K : PySem.W.Frag} {mg : Str → Option Value} (W : Wd K mg) (a0 : (List ((List Int) × Int))) (a1 : Int) (a2 : Int) : List J.Slot := [(sV9 (a0 : (List ((List Int) × Int)))), (sV9 (a1 : Int)), (sV9 (a2 : Int))]
abbrev D_story {K : PySem.W.Frag} {mg : Str → Option Value} (W : Wd K mg) (a0 : (List ((List Int) × Int))) (a1 : Int) (a2 : Int) : List (PySem.Addr × J.Cel) := []
def F_story {K : PySem.W.Frag} {mg : Str → Option Value} (W : Wd K mg)  : J.FS G_story where
  pre := fun g => m_story g.a0 g.a1 g.a2 = some g.out
  preG := fun _ _ => True
  args := fun g => A_story W g.a0 g.a1 g.a2
  cells := fun g => D_story W g.a0 g.a1 g.a2
  res := fun g => R_story W g.out
  cells' := fun g => C_story W g.a0 g.a1 g.a2 g.out
theorem ok_story (W : Wd K mg) : FnOk P w K mg base CX0 8 W.a_story W.d_story ["jobs", "frames", "turn"] (F_story (W)).sp := by
  refine J.fn_okD (F_story (W)) W.F_story sc_story (fun g => rfl) (fun g => by intro s hs; simp only [F_story, List.mem_cons, List.not_mem_nil, or_false] at hs; rcases hs with rfl | rfl | rfl <;> first | rfl | exact J.xsl_plain) (fun cdv A outer s H E hr B g h hG => ?_)
  have hN := (sc_story).nd
  obtain ⟨a0, a1, a2, r0⟩ := g
  change m_story a0 a1 a2 = some r0 at h
  unfold m_story at h
  change J.JS _ B (⟨[(sV9 (a0 : (List ((List Int) × Int)))), (sV9 (a1 : Int)), (sV9 (a2 : Int))], []⟩ : J.Stt) _ (J.fend B (F_story (W)) ⟨a0, a1, a2, r0⟩)
  obtain ⟨x1, hx1, h⟩ := J.bndE h
  have h9 := Option.some.inj h
  subst h9
  exact J.js_ret (J.je_unex (c := (cL9 ((x1.2.2.2.2.2 : List J.Hap).map sV9))) (J.je_partX (C := W.C_Plan) (fs := (fun qs9 => (fun (W : Wd K mg) => [(("jobs" : St9), (sO9 (J.mlA (Cs0 W) W.qs (x1.1 : (List (Int × ((List Int) × (Int × (Int × ((List (Int × Bool)) × ((Option Int) × (Int × Int)))))))))))), (("frames_there" : St9), (sV9 (x1.2.1 : Int))), (("turn" : St9), (sV9 (x1.2.2.1 : Int))), (("waiting" : St9), (sO9 (cL9 ((x1.2.2.2.1 : List Int).map (J.refS W.qs))))), (("lettings" : St9), (sV9 (x1.2.2.2.2.1 : Int))), (("told" : St9), (sO9 (cL9 ((x1.2.2.2.2.2 : List J.Hap).map sV9))))]) { W with qs := qs9 })) (d := (fun qs9 => (fun (W : Wd K mg) => (cL9 ((x1.2.2.2.2.2 : List J.Hap).map sV9))) { W with qs := qs9 })) W.cl_Plan W.na_Plan_told (J.je_call (f := F_played W) (ok_played W) hr (by decide) W.g_played W.F_played.kp W.b_played (J.ja_cons (J.je_var 0 rfl) (J.ja_cons (J.je_var 1 rfl) (J.ja_cons (J.je_var 2 rfl) J.ja_nil))) (g := (⟨a0, a1, a2, x1⟩ : G_played)) hx1 rfl .nil .nil (hG := fun G e => trivial)) (fun _ => rfl))) fun v H o => J.Out.take 0 o
structure G_job_faults where
  a0 : (List ((List Int) × Int))
  a1 : Int
  a2 : Int
  out : (List (Int × Int))
abbrev R_job_faults {K : PySem.W.Frag} {mg : Str → Option Value} (W : Wd K mg) (r : (List (Int × Int))) : J.Slot := (sO9 (cL9 ((r : List (Int × Int)).map sV9)))
abbrev C_job_faults {K : PySem.W.Frag} {mg : Str → Option Value} (W : Wd K mg) (a0 : (List ((List Int) × Int))) (a1 : Int) (a2 : Int) (r : (List (Int × Int))) : List (PySem.Addr × J.Cel) := []
abbrev A_job_faults {K : PySem.W.Frag} {mg : Str → Option Value} (W : Wd K mg) (a0 : (List ((List Int) × Int))) (a1 : Int) (a2 : Int) : List J.Slot := [(sV9 (a0 : (List ((List Int) × Int)))), (sV9 (a1 : Int)), (sV9 (a2 : Int))]
abbrev D_job_faults {K : PySem.W.Frag} {mg : Str → Option Value} (W : Wd K mg) (a0 : (List ((List Int) × Int))) (a1 : Int) (a2 : Int) : List (PySem.Addr × J.Cel) := []
def F_job_faults {K : PySem.W.Frag} {mg : Str → Option Value} (W : Wd K mg)  : J.FS G_job_faults where
  pre := fun g => m_job_faults g.a0 g.a1 g.a2 = some g.out
  preG := fun _ _ => True
  args := fun g => A_job_faults W g.a0 g.a1 g.a2
  cells := fun g => D_job_faults W g.a0 g.a1 g.a2
  res := fun g => R_job_faults W g.out
  cells' := fun g => C_job_faults W g.a0 g.a1 g.a2 g.out
theorem ok_job_faults (W : Wd K mg) : FnOk P w K mg base CX0 8 W.a_job_faults W.d_job_faults ["jobs", "frames", "turn"] (F_job_faults (W)).sp := by
  refine J.fn_okD (F_job_faults (W)) W.F_job_faults sc_job_faults (fun g => rfl) (fun g => by intro s hs; simp only [F_job_faults, List.mem_cons, List.not_mem_nil, or_false] at hs; rcases hs with rfl | rfl | rfl <;> first | rfl | exact J.xsl_plain) (fun cdv A outer s H E hr B g h hG => ?_)
  have hN := (sc_job_faults).nd
  obtain ⟨a0, a1, a2, r0⟩ := g
  change m_job_faults a0 a1 a2 = some r0 at h
  unfold m_job_faults at h
  change J.JS _ B (⟨[(sV9 (a0 : (List ((List Int) × Int)))), (sV9 (a1 : Int)), (sV9 (a2 : Int)), sA9], []⟩ : J.Stt) _ (J.fend B (F_job_faults (W)) ⟨a0, a1, a2, r0⟩)
  obtain ⟨x1, hx1, h⟩ := J.bndE h
  obtain ⟨x12, hx12, h⟩ := J.bndE h
  have h9 := Option.some.inj h
  subst h9
  exact J.js_ret (J.je_lcP (f := fun s9 (a9 : PySem.Addr × Nat) => (m_job_faults_c0 x1) s9 ((a9.2 : Nat) : Int)) (el := sV9) (f9 := Cs0 W) (xs := (x1.1 : (List (Int × ((List Int) × (Int × (Int × ((List (Int × Bool)) × ((Option Int) × (Int × Int)))))))))) (Sf := fun (p2 : PySem.Addr) (q3 : List PySem.Addr)  (s4 : Unit) => (⟨[(sV9 (a0 : (List ((List Int) × Int)))), (sV9 (a1 : Int)), (sV9 (a2 : Int)), sA9], [(p2, (J.mlA (Cs0 W) q3 (x1.1 : (List (Int × ((List Int) × (Int × (Int × ((List (Int × Bool)) × ((Option Int) × (Int × Int)))))))))))]⟩ : J.Stt)) (Sb := fun (p2 : PySem.Addr) (q3 : List PySem.Addr)  (s4 : Unit) (a7 : PySem.Addr × Nat) => (⟨[(sV9 (a0 : (List ((List Int) × Int)))), (sV9 (a1 : Int)), (sV9 (a2 : Int)), (sR9 (.ref a7.1))], [(p2, (J.mlA (Cs0 W) q3 (x1.1 : (List (Int × ((List Int) × (Int × (Int × ((List (Int × Bool)) × ((Option Int) × (Int × Int)))))))))))]⟩ : J.Stt)) (S2 := (⟨[(sV9 (a0 : (List ((List Int) × Int)))), (sV9 (a1 : Int)), (sV9 (a2 : Int)), sA9], []⟩ : J.Stt)) (s0 := ()) (own := [(("job" : St9), 3)]) (ws := [3]) (J.je_unexM (f := Cs0 W) (xs := (x1.1 : (List (Int × ((List Int) × (Int × (Int × ((List (Int × Bool)) × ((Option Int) × (Int × Int)))))))))) (J.je_partX (C := W.C_Plan) (fs := (fun qs9 => (fun (W : Wd K mg) => [(("jobs" : St9), (sO9 (J.mlA (Cs0 W) W.qs (x1.1 : (List (Int × ((List Int) × (Int × (Int × ((List (Int × Bool)) × ((Option Int) × (Int × Int)))))))))))), (("frames_there" : St9), (sV9 (x1.2.1 : Int))), (("turn" : St9), (sV9 (x1.2.2.1 : Int))), (("waiting" : St9), (sO9 (cL9 ((x1.2.2.2.1 : List Int).map (J.refS W.qs))))), (("lettings" : St9), (sV9 (x1.2.2.2.2.1 : Int))), (("told" : St9), (sO9 (cL9 ((x1.2.2.2.2.2 : List J.Hap).map sV9))))]) { W with qs := qs9 })) (d := (fun qs9 => (fun (W : Wd K mg) => (J.mlA (Cs0 W) W.qs (x1.1 : (List (Int × ((List Int) × (Int × (Int × ((List (Int × Bool)) × ((Option Int) × (Int × Int))))))))))) { W with qs := qs9 })) W.cl_Plan W.na_Plan_jobs (J.je_call (f := F_played W) (ok_played W) hr (by decide) W.g_played W.F_played.kp W.b_played (J.ja_cons (J.je_var 0 rfl) (J.ja_cons (J.je_var 1 rfl) (J.ja_cons (J.je_var 2 rfl) J.ja_nil))) (g := (⟨a0, a1, a2, x1⟩ : G_played)) hx1 rfl .nil .nil (hG := fun G e => trivial)) (fun _ => rfl))) (fun q3 hq3 => J.cmpM_idx hq3 (J.lcM_of hx12).2) (by have h9 := (J.lcM_of hx12).1; rw [J.rng_len] at h9; exact h9) hN (L2.blkOk_by (N := ["jobs", "frames", "turn", "job"]) (sc := defScope s_job_faults) (by decide +kernel)) (fun p2 q3 => J.le_fgt 1 (.keep (.keep (.keep (.drop .nil)))) rfl) (fun _ _ _ => ⟨_, rfl⟩) (fun _ _ _ => J.any_at rfl) (by decide) (fun p2 q3 s4 a7 => fun s91 H91 C91 cl91 fp91 =>  J.inJG hN fun hN => (J.jg_name 3 (hN := hN))) (fun p2 q3 s4 a7 o sZ hq3 hm h => by
      obtain ⟨q8, n9⟩ := a7
      have hq8 := J.idxs_at hm
      dsimp only at hq8 h
      unfold m_job_faults_c0 at h
      obtain ⟨x10, hx10, h⟩ := J.bndE h
      obtain ⟨h8, h9⟩ := Prod.mk.inj (Option.some.inj h)
      subst h8
      subst h9
      exact ⟨true, _, (fun s91 H91 C91 cl91 fp91 =>  J.jts_nil), fun _ => ⟨_, _, rfl, (fun s91 H91 C91 cl91 fp91 =>  J.inJE hr hN fun hr hN => (J.je_pre (J.le_openI (f := Cs0 W) (xs := (x1.1 : (List (Int × ((List Int) × (Int × (Int × ((List (Int × Bool)) × ((Option Int) × (Int × Int)))))))))) 0 n9 hq8 hx10 rfl) (J.je_atPart 1 6 rfl rfl (by nofun) (fun _ => rfl) (fun _ => rfl) fun p11 => (J.je_tup (t := ((x10.2.2.2.2.2.2.1, x10.2.2.2.2.2.2.2) : (Int × Int))) (J.ja_cons (J.je_dgetH 2 0 hr (J.je_fget 1 W.cl_Job W.na_Job_faults (J.je_var 3 rfl) rfl rfl) (J.je_globS W.gS_OWN) rfl rfl rfl) (J.ja_cons (J.je_dgetH 2 1 hr (J.je_fget 1 W.cl_Job W.na_Job_faults (J.je_var 3 rfl) rfl rfl) (J.je_globS W.gS_BACK) rfl rfl rfl) J.ja_nil)) (J.SlDs.cons J.sld_val (J.SlDs.cons J.sld_val J.SlDs.nil)) rfl (Nat.le_of_ble_eq_true rfl))))), (J.Le.trans (J.le_closeI0 (f := Cs0 W) (xs := (x1.1 : (List (Int × ((List Int) × (Int × (Int × ((List (Int × Bool)) × ((Option Int) × (Int × Int)))))))))) (x := x10) 0 1 n9 1 hq8 hx10 rfl rfl (by decide) (NGCs0 W)) (J.le_fgt 1 (.keep (.keep (.keep (.drop .nil)))) rfl))⟩, nofun⟩) (fun p2 q3 => J.le_take 0)) fun v H o => J.Out.take 0 o
structure G_law_turns_right where
  a0 : (List J.Hap)
  a1 : Int
  out : Bool
abbrev R_law_turns_right {K : PySem.W.Frag} {mg : Str → Option Value} (W : Wd K mg) (r : Bool) : J.Slot := (sV9 (r : Bool))
abbrev C_law_turns_right {K : PySem.W.Frag} {mg : Str → Option Value} (W : Wd K mg) (a0 : (List J.Hap)) (a1 : Int) (r : Bool) : List (PySem.Addr × J.Cel) := []
abbrev A_law_turns_right {K : PySem.W.Frag} {mg : Str → Option Value} (W : Wd K mg) (a0 : (List J.Hap)) (a1 : Int) : List J.Slot := [(sV9 (a0 : (List J.Hap))), (sV9 (a1 : Int))]
abbrev D_law_turns_right {K : PySem.W.Frag} {mg : Str → Option Value} (W : Wd K mg) (a0 : (List J.Hap)) (a1 : Int) : List (PySem.Addr × J.Cel) := []
def F_law_turns_right {K : PySem.W.Frag} {mg : Str → Option Value} (W : Wd K mg)  : J.FS G_law_turns_right where
  pre := fun g => m_law_turns_right g.a0 g.a1 = some g.out
  preG := fun _ _ => True
  args := fun g => A_law_turns_right W g.a0 g.a1
  cells := fun g => D_law_turns_right W g.a0 g.a1
  res := fun g => R_law_turns_right W g.out
  cells' := fun g => C_law_turns_right W g.a0 g.a1 g.out
theorem ok_law_turns_right (W : Wd K mg) : FnOk P w K mg base CX0 1 W.a__law_turns_right W.d__law_turns_right ["told", "size"] (F_law_turns_right (W)).sp := by
  refine J.fn_okD (F_law_turns_right (W)) W.F__law_turns_right sc__law_turns_right (fun g => rfl) (fun g => by intro s hs; simp only [F_law_turns_right, List.mem_cons, List.not_mem_nil, or_false] at hs; rcases hs with rfl | rfl <;> first | rfl | exact J.xsl_plain) (fun cdv A outer s H E hr B g h hG => ?_)
  have hN := (sc__law_turns_right).nd
  obtain ⟨a0, a1, r0⟩ := g
  change m_law_turns_right a0 a1 = some r0 at h
  unfold m_law_turns_right at h
  change J.JS _ B (⟨[(sV9 (a0 : (List J.Hap))), (sV9 (a1 : Int)), sA9, sA9, sA9], []⟩ : J.Stt) _ (J.fend B (F_law_turns_right (W)) ⟨a0, a1, r0⟩)
  refine J.js_set (hN := hN) 2 (J.je_nonO (α := Int) J.je_non) ?_
  refine J.js_set (hN := hN) 3 J.je_int ?_
  obtain ⟨o14, ho14, h⟩ := J.bndE h
  refine J.js_forLE (π := Unit) (Rr := fun r => J.Out B (R_law_turns_right W r) (C_law_turns_right W a0 a1 r)) (f := m_law_turns_right_b0 a1) (Sf := fun (q2 : Unit) (s1 : ((Option Int) × Int)) => (⟨[(sV9 (a0 : (List J.Hap))), (sV9 (a1 : Int)), (sV9 (s1.1 : (Option Int))), (sV9 (s1.2 : Int)), sA9], []⟩ : J.Stt)) (Sb := fun (q2 : Unit) (s1 : ((Option Int) × Int)) (x3 : J.Hap) => (⟨[(sV9 (a0 : (List J.Hap))), (sV9 (a1 : Int)), (sV9 (s1.1 : (Option Int))), (sV9 (s1.2 : Int)), (sV9 (x3 : J.Hap))], []⟩ : J.Stt)) ho14 (J.ji_val (xs := a0) (J.je_var 0 rfl)) (fun _ _ _ _ g => ⟨(), J.le_fgt (sl := [(sV9 (a0 : (List J.Hap))), (sV9 (a1 : Int)), (sV9 ((none, 0).1 : (Option Int))), (sV9 ((none, 0).2 : Int)), sA9]) (cs := []) 0 (.keep (.keep (.keep (.keep (.drop .nil))))) rfl _ _ _ _ g⟩) (fun _ _ => trivial) (fun q2 s1 x3 => (J.jg_name 4 (hN := hN))) (fun q2 s1 x3 o9 _ h => ?_) (fun r e v H hv => by subst e; cases h; exact hv) (fun s13 e q2 => ?_)
  · unfold m_law_turns_right_b0 at h
    change J.JS _ _ (⟨[(sV9 (a0 : (List J.Hap))), (sV9 (a1 : Int)), (sV9 (s1.1 : (Option Int))), (sV9 (s1.2 : Int)), (sV9 (x3 : J.Hap))], []⟩ : J.Stt) _ _
    refine J.js_if (J.jt_eq' (t := ((J.Hap.len x3) : Int)) (r := (3 : Int)) hr (J.je_hapLen W.l_len (J.je_var 4 rfl)) J.je_int J.dv_val J.dv_val) (fun hp => ?_) (fun hp => ?_)
    · replace h := J.ifT hp h
      obtain ⟨x9, hx9, h⟩ := J.bndE h
      refine J.js_if (J.JW.t (J.jw_andM hx9 (J.jt_ne' (t := ((some (J.Hap.nm x3)) : (Option Int))) (r := (s1.1 : (Option Int))) hr (J.je_some (J.je_hap1 (J.je_var 4 rfl) J.je_int)) (J.je_var 2 rfl) J.dv_val J.dv_val) fun _ r h => by
      obtain ⟨x8, hx8, h⟩ := J.bndE h
      have h9 := Option.some.inj h
      subst h9
      exact (J.jw_and1 (J.jt_ne' (t := (x8 : Int)) (r := (0 : Int)) hr (J.je_modG (J.je_var 3 rfl) (J.je_var 1 rfl) hx8) J.je_int J.dv_val J.dv_val)))) (fun hp => ?_) (fun hp => ?_)
      · replace h := J.ifT hp h
        have h9 := Option.some.inj h
        subst h9
        exact J.js_ret J.je_bl fun v H o => ⟨_, rfl, J.Out.take 0 o⟩
      · replace h := J.ifF hp h
        refine J.js_end ?_
        change J.JS _ _ (⟨[(sV9 (a0 : (List J.Hap))), (sV9 (a1 : Int)), (sV9 (s1.1 : (Option Int))), (sV9 (s1.2 : Int)), (sV9 (x3 : J.Hap))], []⟩ : J.Stt) _ _
        obtain ⟨x10, hx10, h⟩ := J.bndE h
        refine J.js_set (hN := hN) 3 (J.je_ifM (el := sV9) hx10 (J.jt_eq' (t := ((some (J.Hap.nm x3)) : (Option Int))) (r := (s1.1 : (Option Int))) hr (J.je_some (J.je_hap1 (J.je_var 4 rfl) J.je_int)) (J.je_var 2 rfl) J.dv_val J.dv_val) (fun _ r h => by
      have h9 := Option.some.inj h
      subst h9
      exact (J.je_add (J.je_var 3 rfl) J.je_int)) (fun _ r h => by
      have h9 := Option.some.inj h
      subst h9
      exact J.je_int)) ?_
        refine J.js_set (hN := hN) 2 (J.je_some (J.je_hap1 (J.je_var 4 rfl) J.je_int)) ?_
        refine J.js_end ?_
        change J.JS _ _ (⟨[(sV9 (a0 : (List J.Hap))), (sV9 (a1 : Int)), (sV9 ((some (J.Hap.nm x3)) : (Option Int))), (sV9 (x10 : Int)), (sV9 (x3 : J.Hap))], []⟩ : J.Stt) _ _
        have h9 := Option.some.inj h
        subst h9
        exact J.js_nil fun T tv σ H g => ⟨_, rfl, (), J.le_fgt (sl := [(sV9 (a0 : (List J.Hap))), (sV9 (a1 : Int)), (sV9 (((some (J.Hap.nm x3)), x10).1 : (Option Int))), (sV9 (((some (J.Hap.nm x3)), x10).2 : Int)), sA9]) (cs := []) 0 (.keep (.keep (.keep (.keep (.drop .nil))))) rfl _ _ _ _ g⟩
    · replace h := J.ifF hp h
      obtain ⟨s11, hs11, h⟩ := J.bndE h
      refine J.js_ifE (π := Unit) (Sq := fun (q12 : Unit) => (⟨[(sV9 (a0 : (List J.Hap))), (sV9 (a1 : Int)), (sV9 (s11.1 : (Option Int))), (sV9 (s11.2 : Int)), (sV9 (x3 : J.Hap))], []⟩ : J.Stt)) (J.JW.t (J.jw_and (J.jt_eq' (t := ((some (J.Hap.nm x3)) : (Option Int))) (r := (s1.1 : (Option Int))) hr (J.je_some (J.je_hap1 (J.je_var 4 rfl) J.je_int)) (J.je_var 2 rfl) J.dv_val J.dv_val) fun _ => (J.jw_and1 (J.jt_ne' (t := ((J.Hap.wd x3) : St9)) (r := (("on" : St9) : St9)) hr (J.je_hap0 (J.je_var 4 rfl) J.je_int) J.je_str J.dv_val J.dv_val)))) (fun hp => ?_) (fun hp => ?_) (fun q12 => ?_)
      · have h := J.ifT hp hs11
        refine J.js_asg (J.je_tup (t := ((none, 0) : ((Option Int) × Int))) (J.ja_cons (J.je_nonO (α := Int) J.je_non) (J.ja_cons J.je_int J.ja_nil)) (J.SlDs.cons J.sld_val (J.SlDs.cons J.sld_val J.SlDs.nil)) rfl (Nat.le_of_ble_eq_true rfl)) (J.jg_pair (J.jgs_cons (J.jg_name 2 (hN := hN)) (J.jgs_cons (J.jg_name 3 (hN := hN)) J.jgs_nil))) ?_
        change J.JS _ _ (⟨[(sV9 (a0 : (List J.Hap))), (sV9 (a1 : Int)), (sV9 (((none, 0) : ((Option Int) × Int)).1 : (Option Int))), (sV9 (((none, 0) : ((Option Int) × Int)).2 : Int)), (sV9 (x3 : J.Hap))], []⟩ : J.Stt) _ _
        have h9 := Option.some.inj h
        subst h9
        exact J.js_loopEnd (Sq := fun (q12 : Unit) (s11 : ((Option Int) × Int)) => (⟨[(sV9 (a0 : (List J.Hap))), (sV9 (a1 : Int)), (sV9 (s11.1 : (Option Int))), (sV9 (s11.2 : Int)), (sV9 (x3 : J.Hap))], []⟩ : J.Stt)) (s' := (((none, 0) : ((Option Int) × Int)).1, ((none, 0) : ((Option Int) × Int)).2)) 0 () (.keep (.keep (.keep (.keep (.keep .nil))))) rfl rfl
      · have h := J.ifF hp hs11
        have h9 := Option.some.inj h
        subst h9
        exact J.js_loopEnd (Sq := fun (q12 : Unit) (s11 : ((Option Int) × Int)) => (⟨[(sV9 (a0 : (List J.Hap))), (sV9 (a1 : Int)), (sV9 (s11.1 : (Option Int))), (sV9 (s11.2 : Int)), (sV9 (x3 : J.Hap))], []⟩ : J.Stt)) (s' := (s1.1, s1.2)) 0 () (.keep (.keep (.keep (.keep (.keep .nil))))) rfl rfl
      refine J.js_end ?_
      change J.JS _ _ (⟨[(sV9 (a0 : (List J.Hap))), (sV9 (a1 : Int)), (sV9 (s11.1 : (Option Int))), (sV9 (s11.2 : Int)), (sV9 (x3 : J.Hap))], []⟩ : J.Stt) _ _
      have h9 := Option.some.inj h
      subst h9
      exact J.js_nil fun T tv σ H g => ⟨_, rfl, (), J.le_fgt (sl := [(sV9 (a0 : (List J.Hap))), (sV9 (a1 : Int)), (sV9 ((s11.1, s11.2).1 : (Option Int))), (sV9 ((s11.1, s11.2).2 : Int)), sA9]) (cs := []) 0 (.keep (.keep (.keep (.keep (.drop .nil))))) rfl _ _ _ _ g⟩
  · subst e
    try rw [Sum.elim_inl] at h
    change J.JS _ _ (⟨[(sV9 (a0 : (List J.Hap))), (sV9 (a1 : Int)), (sV9 (s13.1 : (Option Int))), (sV9 (s13.2 : Int)), sA9], []⟩ : J.Stt) _ _
    have h9 := Option.some.inj h
    subst h9
    exact J.js_ret J.je_bl fun v H o => J.Out.take 0 o
structure G_working where
  a0 : (List Int)
  a1 : Int
  out : (List (List Int))
abbrev R_working {K : PySem.W.Frag} {mg : Str → Option Value} (W : Wd K mg) (r : (List (List Int))) : J.Slot := (sO9 (cL9 ((r : List (List Int)).map sV9)))
abbrev C_working {K : PySem.W.Frag} {mg : Str → Option Value} (W : Wd K mg) (a0 : (List Int)) (a1 : Int) (r : (List (List Int))) : List (PySem.Addr × J.Cel) := []
abbrev A_working {K : PySem.W.Frag} {mg : Str → Option Value} (W : Wd K mg) (a0 : (List Int)) (a1 : Int) : List J.Slot := [(sV9 (a0 : (List Int))), (sV9 (a1 : Int))]
abbrev D_working {K : PySem.W.Frag} {mg : Str → Option Value} (W : Wd K mg) (a0 : (List Int)) (a1 : Int) : List (PySem.Addr × J.Cel) := []
def F_working {K : PySem.W.Frag} {mg : Str → Option Value} (W : Wd K mg)  : J.FS G_working where
  pre := fun g => m_working g.a0 g.a1 = some g.out
  preG := fun _ _ => True
  args := fun g => A_working W g.a0 g.a1
  cells := fun g => D_working W g.a0 g.a1
  res := fun g => R_working W g.out
  cells' := fun g => C_working W g.a0 g.a1 g.out
theorem ok_working (W : Wd K mg) : FnOk P w K mg base CX0 2 W.a_working W.d_working ["trace", "window"] (F_working (W)).sp := by
  refine J.fn_okD (F_working (W)) W.F_working sc_working (fun g => rfl) (fun g => by intro s hs; simp only [F_working, List.mem_cons, List.not_mem_nil, or_false] at hs; rcases hs with rfl | rfl <;> first | rfl | exact J.xsl_plain) (fun cdv A outer s H E hr B g h hG => ?_)
  have hN := (sc_working).nd
  obtain ⟨a0, a1, r0⟩ := g
  change m_working a0 a1 = some r0 at h
  unfold m_working at h
  change J.JS _ B (⟨[(sV9 (a0 : (List Int))), (sV9 (a1 : Int)), sA9], []⟩ : J.Stt) _ (J.fend B (F_working (W)) ⟨a0, a1, r0⟩)
  obtain ⟨x1, hx1, h⟩ := J.bndE h
  refine J.js_expr (J.je_call (f := F_need_window W) (ok_need_window W) hr (by decide) W.g_need_window W.F_need_window.kp W.b_need_window (J.ja_cons (J.je_var 1 rfl) (J.ja_cons (J.je_var 1 rfl) J.ja_nil)) (g := (⟨a1, a1, x1⟩ : G_need_window)) hx1 rfl .nil .nil (hG := fun G e => trivial)) ?_
  change J.JS _ _ (⟨[(sV9 (a0 : (List Int))), (sV9 (a1 : Int)), sA9], []⟩ : J.Stt) _ _
  obtain ⟨x2, hx2, h⟩ := J.bndE h
  obtain ⟨x7, hx7, h⟩ := J.bndE h
  have h9 := Option.some.inj h
  subst h9
  exact J.js_ret (J.je_lc (f := m_working_c0 a0 a1) (el := sV9) (Sf := fun (s3 : Unit) => (⟨[(sV9 (a0 : (List Int))), (sV9 (a1 : Int)), sA9], []⟩ : J.Stt)) (Sb := fun (s3 : Unit) (x5 : Int) => (⟨[(sV9 (a0 : (List Int))), (sV9 (a1 : Int)), (sV9 (x5 : Int))], []⟩ : J.Stt)) (s0 := ()) (own := [(("at" : St9), 2)]) (ws := [2]) (J.lcM_of hx7).2 (J.lcM_of hx7).1 hN (L2.blkOk_by (N := ["trace", "window", "at"]) (sc := defScope s_working) (by decide +kernel)) (J.ji_rngG W.l_range (J.je_len (n := "len") (xs := a0) W.l_len (J.je_var 0 rfl) J.lv_val) hx2) (J.le_fgt 0 (.keep (.keep (.drop .nil))) rfl) (fun _ => trivial) (fun _ => J.any_at rfl) (by decide) (fun s3 x5 => fun s91 H91 C91 cl91 fp91 =>  J.inJG hN fun hN => (J.jg_name 2 (hN := hN))) (fun s3 x5 o sZ _ h => by
      unfold m_working_c0 at h
      obtain ⟨x6, hx6, h⟩ := J.bndE h
      obtain ⟨h8, h9⟩ := Prod.mk.inj (Option.some.inj h)
      subst h8
      subst h9
      exact ⟨true, _, (fun s91 H91 C91 cl91 fp91 =>  J.jts_nil), fun _ => ⟨_, _, rfl, (fun s91 H91 C91 cl91 fp91 =>  J.inJE hr hN fun hr hN => (J.je_frL (J.je_sortSet (ns := (J.slc a0 (some (if ((x5 + 1) - a1) > 0 then ((x5 + 1) - a1) else 0)) (some (x5 + 1)))) W.l_sorted W.l_set (J.je_slcv (xs := a0) (J.je_var 0 rfl) (J.jo_some (J.je_max2 W.l_max J.je_int (J.je_sub (J.je_add (J.je_var 2 rfl) J.je_int) (J.je_var 1 rfl)))) (J.jo_some (J.je_add (J.je_var 2 rfl) J.je_int)) J.lv_val) J.lv_own' hx6))), (J.le_fgt 0 (.keep (.keep (.drop .nil))) rfl)⟩, nofun⟩)) fun v H o => J.Out.take 0 o
structure G_window_walk where
  a0 : (List Int)
  a1 : Int
  out : (List (PySem.W.T3 Int St9 (PySem.W.Tup Int)))
abbrev R_window_walk {K : PySem.W.Frag} {mg : Str → Option Value} (W : Wd K mg) (r : (List (PySem.W.T3 Int St9 (PySem.W.Tup Int)))) : J.Slot := (sO9 (cL9 ((r : List (PySem.W.T3 Int St9 (PySem.W.Tup Int))).map sV9)))
abbrev C_window_walk {K : PySem.W.Frag} {mg : Str → Option Value} (W : Wd K mg) (a0 : (List Int)) (a1 : Int) (r : (List (PySem.W.T3 Int St9 (PySem.W.Tup Int)))) : List (PySem.Addr × J.Cel) := []
abbrev A_window_walk {K : PySem.W.Frag} {mg : Str → Option Value} (W : Wd K mg) (a0 : (List Int)) (a1 : Int) : List J.Slot := [(sV9 (a0 : (List Int))), (sV9 (a1 : Int))]
abbrev D_window_walk {K : PySem.W.Frag} {mg : Str → Option Value} (W : Wd K mg) (a0 : (List Int)) (a1 : Int) : List (PySem.Addr × J.Cel) := []
def F_window_walk {K : PySem.W.Frag} {mg : Str → Option Value} (W : Wd K mg)  : J.FS G_window_walk where
  pre := fun g => m_window_walk g.a0 g.a1 = some g.out
  preG := fun _ _ => True
  args := fun g => A_window_walk W g.a0 g.a1
  cells := fun g => D_window_walk W g.a0 g.a1
  res := fun g => R_window_walk W g.out
  cells' := fun g => C_window_walk W g.a0 g.a1 g.out
theorem ok_window_walk (W : Wd K mg) : FnOk P w K mg base CX0 3 W.a_window_walk W.d_window_walk ["trace", "window"] (F_window_walk (W)).sp := by
  refine J.fn_okD (F_window_walk (W)) W.F_window_walk sc_window_walk (fun g => rfl) (fun g => by intro s hs; simp only [F_window_walk, List.mem_cons, List.not_mem_nil, or_false] at hs; rcases hs with rfl | rfl <;> first | rfl | exact J.xsl_plain) (fun cdv A outer s H E hr B g h hG => ?_)
  have hN := (sc_window_walk).nd
  obtain ⟨a0, a1, r0⟩ := g
  change m_window_walk a0 a1 = some r0 at h
  unfold m_window_walk at h
  change J.JS _ B (⟨[(sV9 (a0 : (List Int))), (sV9 (a1 : Int)), sA9, sA9, sA9, sA9, sA9, sA9], []⟩ : J.Stt) _ (J.fend B (F_window_walk (W)) ⟨a0, a1, r0⟩)
  refine J.js_new (hN := hN) 2 (J.je_lstv (xs := ([] : List (PySem.W.T3 Int St9 (PySem.W.Tup Int)))) J.ja_nil) fun p1 => ?_
  refine J.js_set (hN := hN) 3 (J.je_frL (J.je_lstv (xs := ([] : List Int)) J.ja_nil)) ?_
  obtain ⟨x2, hx2, h⟩ := J.bndE h
  obtain ⟨s16, hs16, h⟩ := J.bndE h
  refine J.js_forE (π := Unit) (f := m_window_walk_b1) (Sf := fun (q4 : Unit) (s3 : ((List (PySem.W.T3 Int St9 (PySem.W.Tup Int))) × (List Int))) => (⟨[(sV9 (a0 : (List Int))), (sV9 (a1 : Int)), (sR9 (.ref p1)), (sV9 (s3.2 : (List Int))), sA9, sA9, sA9, sA9], [(p1, (cL9 ((s3.1 : List (PySem.W.T3 Int St9 (PySem.W.Tup Int))).map sV9)))]⟩ : J.Stt)) (Sb := fun (q4 : Unit) (s3 : ((List (PySem.W.T3 Int St9 (PySem.W.Tup Int))) × (List Int))) (x5 : (Int × (List Int))) => (⟨[(sV9 (a0 : (List Int))), (sV9 (a1 : Int)), (sR9 (.ref p1)), (sV9 (s3.2 : (List Int))), (sV9 (x5.1 : Int)), (sV9 (x5.2 : (List Int))), sA9, sA9], [(p1, (cL9 ((s3.1 : List (PySem.W.T3 Int St9 (PySem.W.Tup Int))).map sV9)))]⟩ : J.Stt)) hs16 (J.ji_zip (xs := a0) (ys := x2) (ok := fun _ => True) W.l_zip (J.je_var 0 rfl) (J.je_call (f := F_working W) (ok_working W) hr (by decide) W.g_working W.F_working.kp W.b_working (J.ja_cons (J.je_var 0 rfl) (J.ja_cons (J.je_var 1 rfl) J.ja_nil)) (g := (⟨a0, a1, x2⟩ : G_working)) hx2 rfl .nil .nil (hG := fun G e => trivial)) J.lv_val J.lv_own' (fun _ _ => ⟨J.lv_val, J.lv_own'⟩) rfl) (fun _ _ _ _ g => ⟨(), J.le_fgt (sl := [(sV9 (a0 : (List Int))), (sV9 (a1 : Int)), (sR9 (.ref p1)), (sV9 ((([] : List (PySem.W.T3 Int St9 (PySem.W.Tup Int))), ([] : List Int)).2 : (List Int))), sA9, sA9, sA9, sA9]) (cs := [(p1, (cL9 (((([] : List (PySem.W.T3 Int St9 (PySem.W.Tup Int))), ([] : List Int)).1 : List (PySem.W.T3 Int St9 (PySem.W.Tup Int))).map sV9)))]) 1 (.keep (.keep (.keep (.keep (.drop (.drop (.drop (.drop .nil)))))))) rfl _ _ _ _ g⟩) (fun _ _ => trivial) (fun q4 s3 x5 => (J.jg_pair (J.jgs_cons (J.jg_name 4 (hN := hN)) (J.jgs_cons (J.jg_name 5 (hN := hN)) J.jgs_nil)))) (fun q4 s3 x5 sY _ h => ?_) (fun q4 => ?_)
  · unfold m_window_walk_b1 at h
    change J.JS _ _ (⟨[(sV9 (a0 : (List Int))), (sV9 (a1 : Int)), (sR9 (.ref p1)), (sV9 (s3.2 : (List Int))), (sV9 (x5.1 : Int)), (sV9 (x5.2 : (List Int))), sA9, sA9], [(p1, (cL9 ((s3.1 : List (PySem.W.T3 Int St9 (PySem.W.Tup Int))).map sV9)))]⟩ : J.Stt) _ _
    obtain ⟨x10, hx10, h⟩ := J.bndE h
    refine J.js_set (hN := hN) 6 (J.je_ifM (el := sV9) hx10 (J.jt_in (t := (x5.1 : Int)) (xs := s3.2) hr (J.je_var 4 rfl) (J.je_var 3 rfl) J.dv_val J.lv_val) (fun _ r h => by
      have h9 := Option.some.inj h
      subst h9
      exact J.je_str) (fun _ r h => by
      have h9 := Option.some.inj h
      subst h9
      exact J.je_str)) ?_
    obtain ⟨x14, hx14, h⟩ := J.bndE h
    obtain ⟨x15, hx15, h⟩ := J.bndE h
    refine J.js_expr (J.je_appG (xs := s3.1) (t := ((PySem.W.T3.mk x5.1 x10 (PySem.W.Tup.mk (x14.1 : List Int))) : (PySem.W.T3 Int St9 (PySem.W.Tup Int)))) 0 (J.je_var 2 rfl) rfl (J.je_tup (t := ((PySem.W.T3.mk x5.1 x10 (PySem.W.Tup.mk (x14.1 : List Int))) : (PySem.W.T3 Int St9 (PySem.W.Tup Int)))) (J.ja_cons (J.je_var 4 rfl) (J.ja_cons (J.je_var 6 rfl) (J.ja_cons (J.je_tupL (xs := (x14.1 : List Int)) W.l_tuple (J.je_lc (f := m_window_walk_c0 x5) (el := sV9) (Sf := fun (s11 : Unit) => (⟨[(sV9 (a0 : (List Int))), (sV9 (a1 : Int)), (sR9 (.ref p1)), (sV9 (s3.2 : (List Int))), (sV9 (x5.1 : Int)), (sV9 (x5.2 : (List Int))), (sV9 (x10 : St9)), sA9], [(p1, (cL9 ((s3.1 : List (PySem.W.T3 Int St9 (PySem.W.Tup Int))).map sV9)))]⟩ : J.Stt)) (Sb := fun (s11 : Unit) (x13 : Int) => (⟨[(sV9 (a0 : (List Int))), (sV9 (a1 : Int)), (sR9 (.ref p1)), (sV9 (s3.2 : (List Int))), (sV9 (x5.1 : Int)), (sV9 (x5.2 : (List Int))), (sV9 (x10 : St9)), (sV9 (x13 : Int))], [(p1, (cL9 ((s3.1 : List (PySem.W.T3 Int St9 (PySem.W.Tup Int))).map sV9)))]⟩ : J.Stt)) (s0 := ()) (own := [(("one" : St9), 7)]) (ws := [7]) (J.lcM_of hx14).2 (J.lcM_of hx14).1 hN (L2.blkOk_by (N := ["trace", "window", "found", "ahead", "page", "behind", "word", "one"]) (sc := defScope s_window_walk) (by decide +kernel)) (J.ji_val (xs := s3.2) (J.je_var 3 rfl)) (J.le_fgt 1 (.keep (.keep (.keep (.keep (.keep (.keep (.keep (.drop .nil)))))))) rfl) (fun _ => trivial) (fun _ => J.any_at rfl) (by decide) (fun s11 x13 => fun s91 H91 C91 cl91 fp91 =>  J.inJG hN fun hN => (J.jg_name 7 (hN := hN))) (fun s11 x13 o sZ _ h => by
      unfold m_window_walk_c0 at h
      by_cases hp : (decide (x13 ∉ x5.2)) = true
      · replace h := J.ifT hp h
        obtain ⟨h8, h9⟩ := Prod.mk.inj (Option.some.inj h)
        subst h8
        subst h9
        exact ⟨true, _, (fun s91 H91 C91 cl91 fp91 =>  J.inJTs hr hN fun hr hN => J.jts_one (J.jt_eq (J.jt_notIn (t := (x13 : Int)) (xs := x5.2) hr (J.je_var 7 rfl) (J.je_var 5 rfl) J.dv_val J.lv_val) hp)), fun _ => ⟨_, _, rfl, (fun s91 H91 C91 cl91 fp91 =>  J.inJE hr hN fun hr hN => (J.je_var 7 rfl)), (J.le_fgt 1 (.keep (.keep (.keep (.keep (.keep (.keep (.keep (.drop .nil)))))))) rfl)⟩, nofun⟩
      · rw [Bool.not_eq_true] at hp
        replace h := J.ifF hp h
        obtain ⟨h8, h9⟩ := Prod.mk.inj (Option.some.inj h)
        subst h8
        subst h9
        exact ⟨false, _, (fun s91 H91 C91 cl91 fp91 =>  J.inJTs hr hN fun hr hN => J.jts_one (J.jt_eq (J.jt_notIn (t := (x13 : Int)) (xs := x5.2) hr (J.je_var 7 rfl) (J.je_var 5 rfl) J.dv_val J.lv_val) hp)), nofun, fun _ => ⟨rfl, (J.le_fgt 1 (.keep (.keep (.keep (.keep (.keep (.keep (.keep (.drop .nil)))))))) rfl)⟩⟩)) J.lv_own') J.ja_nil))) (J.SlDs.cons J.sld_val (J.SlDs.cons J.sld_val (J.SlDs.cons J.sld_val J.SlDs.nil))) rfl (Nat.le_of_ble_eq_true rfl)) rfl hx15) ?_
    refine J.js_set (hN := hN) 3 (J.je_var 5 rfl) ?_
    have h9 := Option.some.inj h
    subst h9
    exact J.js_nil fun T tv σ H g => ⟨(), J.le_fgt (sl := [(sV9 (a0 : (List Int))), (sV9 (a1 : Int)), (sR9 (.ref p1)), (sV9 ((x15, x5.2).2 : (List Int))), sA9, sA9, sA9, sA9]) (cs := [(p1, (cL9 (((x15, x5.2).1 : List (PySem.W.T3 Int St9 (PySem.W.Tup Int))).map sV9)))]) 1 (.keep (.keep (.keep (.keep (.drop (.drop (.drop (.drop .nil)))))))) rfl _ _ _ _ g⟩
  change J.JS _ _ (⟨[(sV9 (a0 : (List Int))), (sV9 (a1 : Int)), (sR9 (.ref p1)), (sV9 (s16.2 : (List Int))), sA9, sA9, sA9, sA9], [(p1, (cL9 ((s16.1 : List (PySem.W.T3 Int St9 (PySem.W.Tup Int))).map sV9)))]⟩ : J.Stt) _ _
  have h9 := Option.some.inj h
  subst h9
  exact J.js_ret (J.je_own 0 (J.je_var 2 rfl) rfl) fun v H o => J.Out.take 0 o
structure G_law_one_right where
  a0 : (List J.Hap)
  a1 : Int
  a2 : (List Int)
  a3 : Int
  out : Bool
abbrev R_law_one_right {K : PySem.W.Frag} {mg : Str → Option Value} (W : Wd K mg) (r : Bool) : J.Slot := (sV9 (r : Bool))
abbrev C_law_one_right {K : PySem.W.Frag} {mg : Str → Option Value} (W : Wd K mg) (a0 : (List J.Hap)) (a1 : Int) (a2 : (List Int)) (a3 : Int) (r : Bool) : List (PySem.Addr × J.Cel) := []
abbrev A_law_one_right {K : PySem.W.Frag} {mg : Str → Option Value} (W : Wd K mg) (a0 : (List J.Hap)) (a1 : Int) (a2 : (List Int)) (a3 : Int) : List J.Slot := [(sV9 (a0 : (List J.Hap))), (sV9 (a1 : Int)), (sV9 (a2 : (List Int))), (sV9 (a3 : Int))]
abbrev D_law_one_right {K : PySem.W.Frag} {mg : Str → Option Value} (W : Wd K mg) (a0 : (List J.Hap)) (a1 : Int) (a2 : (List Int)) (a3 : Int) : List (PySem.Addr × J.Cel) := []
def F_law_one_right {K : PySem.W.Frag} {mg : Str → Option Value} (W : Wd K mg)  : J.FS G_law_one_right where
  pre := fun g => m_law_one_right g.a0 g.a1 g.a2 g.a3 = some g.out
  preG := fun _ _ => True
  args := fun g => A_law_one_right W g.a0 g.a1 g.a2 g.a3
  cells := fun g => D_law_one_right W g.a0 g.a1 g.a2 g.a3
  res := fun g => R_law_one_right W g.out
  cells' := fun g => C_law_one_right W g.a0 g.a1 g.a2 g.a3 g.out
theorem ok_law_one_right (W : Wd K mg) : FnOk P w K mg base CX0 4 W.a__law_one_right W.d__law_one_right ["told", "k", "line", "wide"] (F_law_one_right (W)).sp := by
  refine J.fn_okD (F_law_one_right (W)) W.F__law_one_right sc__law_one_right (fun g => rfl) (fun g => by intro s hs; simp only [F_law_one_right, List.mem_cons, List.not_mem_nil, or_false] at hs; rcases hs with rfl | rfl | rfl | rfl <;> first | rfl | exact J.xsl_plain) (fun cdv A outer s H E hr B g h hG => ?_)
  have hN := (sc__law_one_right).nd
  obtain ⟨a0, a1, a2, a3, r0⟩ := g
  change m_law_one_right a0 a1 a2 a3 = some r0 at h
  unfold m_law_one_right at h
  change J.JS _ B (⟨[(sV9 (a0 : (List J.Hap))), (sV9 (a1 : Int)), (sV9 (a2 : (List Int))), (sV9 (a3 : Int)), sA9, sA9, sA9, sA9, sA9, sA9], []⟩ : J.Stt) _ (J.fend B (F_law_one_right (W)) ⟨a0, a1, a2, a3, r0⟩)
  obtain ⟨x4, hx4, h⟩ := J.bndE h
  refine J.js_setLc 4 (z := (sV9 (x4.1 : (List J.Hap)))) (f := m_law_one_right_c0 a1) (el := sV9) (Sf := fun (s1 : Unit) => (⟨[(sV9 (a0 : (List J.Hap))), (sV9 (a1 : Int)), (sV9 (a2 : (List Int))), (sV9 (a3 : Int)), sA9, sA9, sA9, sA9, sA9, sA9], []⟩ : J.Stt)) (Sb := fun (s1 : Unit) (x3 : J.Hap) => (⟨[(sV9 (a0 : (List J.Hap))), (sV9 (a1 : Int)), (sV9 (a2 : (List Int))), (sV9 (a3 : Int)), sA9, sA9, sA9, sA9, sA9, (sV9 (x3 : J.Hap))], []⟩ : J.Stt)) (s0 := ()) (own := [(("one" : St9), 9)]) (ws := [9]) (J.lcM_of hx4).2 (J.lcM_of hx4).1 hN (L2.blkOk_by (N := ["told", "k", "line", "wide", "mine", "steps", "asked", "walked", "at", "one"]) (sc := defScope s__law_one_right) (by decide +kernel)) (J.ji_val (xs := a0) (J.je_var 0 rfl)) (J.le_fgt 0 (.keep (.keep (.keep (.keep (.drop (.drop (.drop (.drop (.drop (.drop .nil)))))))))) rfl) (fun _ => trivial) (fun _ => J.any_at rfl) (by decide) (fun s1 x3 => fun s91 H91 C91 cl91 fp91 =>  J.inJG hN fun hN => (J.jg_name 9 (hN := hN))) (fun s1 x3 o sZ _ h => by
      unfold m_law_one_right_c0 at h
      by_cases hp : (decide ((J.Hap.nm x3) = a1)) = true
      · replace h := J.ifT hp h
        obtain ⟨h8, h9⟩ := Prod.mk.inj (Option.some.inj h)
        subst h8
        subst h9
        exact ⟨true, _, (fun s91 H91 C91 cl91 fp91 =>  J.inJTs hr hN fun hr hN => J.jts_one (J.jt_eq (J.jt_eq' (t := ((J.Hap.nm x3) : Int)) (r := (a1 : Int)) hr (J.je_hap1 (J.je_var 9 rfl) J.je_int) (J.je_var 1 rfl) J.dv_val J.dv_val) hp)), fun _ => ⟨_, _, rfl, (fun s91 H91 C91 cl91 fp91 =>  J.inJE hr hN fun hr hN => (J.je_var 9 rfl)), (J.le_fgt 0 (.keep (.keep (.keep (.keep (.drop (.drop (.drop (.drop (.drop (.drop .nil)))))))))) rfl)⟩, nofun⟩
      · rw [Bool.not_eq_true] at hp
        replace h := J.ifF hp h
        obtain ⟨h8, h9⟩ := Prod.mk.inj (Option.some.inj h)
        subst h8
        subst h9
        exact ⟨false, _, (fun s91 H91 C91 cl91 fp91 =>  J.inJTs hr hN fun hr hN => J.jts_one (J.jt_eq (J.jt_eq' (t := ((J.Hap.nm x3) : Int)) (r := (a1 : Int)) hr (J.je_hap1 (J.je_var 9 rfl) J.je_int) (J.je_var 1 rfl) J.dv_val J.dv_val) hp)), nofun, fun _ => ⟨rfl, (J.le_fgt 0 (.keep (.keep (.keep (.keep (.drop (.drop (.drop (.drop (.drop (.drop .nil)))))))))) rfl)⟩⟩) (fun h => h.frz (.own (J.fz_val _)) fun G d => .val d) ?_
  refine J.js_if (J.jt_eq' (t := (a2 : (List Int))) (r := (([] : List Int) : (List Int))) hr (J.je_var 2 rfl) (J.je_lstv (xs := ([] : List Int)) J.ja_nil) J.dv_val J.dv_ownL) (fun hp => ?_) (fun hp => ?_)
  · replace h := J.ifT hp h
    have h9 := Option.some.inj h
    subst h9
    exact J.js_ret (J.jc_eq (t := (x4.1 : (List J.Hap))) (r := (([] : List J.Hap) : (List J.Hap))) hr (J.je_var 4 rfl) (J.je_lstv (xs := ([] : List J.Hap)) J.ja_nil) J.dv_val J.dv_ownL) fun v H o => J.Out.take 0 o
  · replace h := J.ifF hp h
    refine J.js_end ?_
    change J.JS _ _ (⟨[(sV9 (a0 : (List J.Hap))), (sV9 (a1 : Int)), (sV9 (a2 : (List Int))), (sV9 (a3 : Int)), (sV9 (x4.1 : (List J.Hap))), sA9, sA9, sA9, sA9, sA9], []⟩ : J.Stt) _ _
    obtain ⟨x8, hx8, h⟩ := J.bndE h
    refine J.js_setLc 5 (z := (sV9 (x8.1 : (List St9)))) (f := m_law_one_right_c1) (el := sV9) (Sf := fun (s5 : Unit) => (⟨[(sV9 (a0 : (List J.Hap))), (sV9 (a1 : Int)), (sV9 (a2 : (List Int))), (sV9 (a3 : Int)), (sV9 (x4.1 : (List J.Hap))), sA9, sA9, sA9, sA9, sA9], []⟩ : J.Stt)) (Sb := fun (s5 : Unit) (x7 : J.Hap) => (⟨[(sV9 (a0 : (List J.Hap))), (sV9 (a1 : Int)), (sV9 (a2 : (List Int))), (sV9 (a3 : Int)), (sV9 (x4.1 : (List J.Hap))), sA9, sA9, sA9, sA9, (sV9 (x7 : J.Hap))], []⟩ : J.Stt)) (s0 := ()) (own := [(("one" : St9), 9)]) (ws := [9]) (J.lcM_of hx8).2 (J.lcM_of hx8).1 hN (L2.blkOk_by (N := ["told", "k", "line", "wide", "mine", "steps", "asked", "walked", "at", "one"]) (sc := defScope s__law_one_right) (by decide +kernel)) (J.ji_val (xs := x4.1) (J.je_var 4 rfl)) (J.le_fgt 0 (.keep (.keep (.keep (.keep (.keep (.drop (.drop (.drop (.drop (.drop .nil)))))))))) rfl) (fun _ => trivial) (fun _ => J.any_at rfl) (by decide) (fun s5 x7 => fun s91 H91 C91 cl91 fp91 =>  J.inJG hN fun hN => (J.jg_name 9 (hN := hN))) (fun s5 x7 o sZ _ h => by
      unfold m_law_one_right_c1 at h
      by_cases hp : (decide ((J.Hap.len x7) = 2)) = true
      · replace h := J.ifT hp h
        obtain ⟨h8, h9⟩ := Prod.mk.inj (Option.some.inj h)
        subst h8
        subst h9
        exact ⟨true, _, (fun s91 H91 C91 cl91 fp91 =>  J.inJTs hr hN fun hr hN => J.jts_one (J.jt_eq (J.jt_eq' (t := ((J.Hap.len x7) : Int)) (r := (2 : Int)) hr (J.je_hapLen W.l_len (J.je_var 9 rfl)) J.je_int J.dv_val J.dv_val) hp)), fun _ => ⟨_, _, rfl, (fun s91 H91 C91 cl91 fp91 =>  J.inJE hr hN fun hr hN => (J.je_hap0 (J.je_var 9 rfl) J.je_int)), (J.le_fgt 0 (.keep (.keep (.keep (.keep (.keep (.drop (.drop (.drop (.drop (.drop .nil)))))))))) rfl)⟩, nofun⟩
      · rw [Bool.not_eq_true] at hp
        replace h := J.ifF hp h
        obtain ⟨h8, h9⟩ := Prod.mk.inj (Option.some.inj h)
        subst h8
        subst h9
        exact ⟨false, _, (fun s91 H91 C91 cl91 fp91 =>  J.inJTs hr hN fun hr hN => J.jts_one (J.jt_eq (J.jt_eq' (t := ((J.Hap.len x7) : Int)) (r := (2 : Int)) hr (J.je_hapLen W.l_len (J.je_var 9 rfl)) J.je_int J.dv_val J.dv_val) hp)), nofun, fun _ => ⟨rfl, (J.le_fgt 0 (.keep (.keep (.keep (.keep (.keep (.drop (.drop (.drop (.drop (.drop .nil)))))))))) rfl)⟩⟩) (fun h => h.frz (.own (J.fz_val _)) fun G d => .val d) ?_
    obtain ⟨x9, hx9, h⟩ := J.bndE h
    obtain ⟨x10, hx10, h⟩ := J.bndE h
    refine J.js_if (J.jt_ne' (t := (x8.1 : (List St9))) (r := (x10 : (List St9))) hr (J.je_var 5 rfl) (J.je_catG (xs := x9) (ys := ([("on" : St9), ("done" : St9)] : List St9)) (J.je_repG (xs := ([("on" : St9), ("off" : St9)] : List St9)) (J.je_lstv (xs := ([("on" : St9), ("off" : St9)] : List St9)) (J.ja_cons J.je_str (J.ja_cons J.je_str J.ja_nil))) (J.je_sub (J.je_div (J.je_len (n := "len") (xs := x8.1) W.l_len (J.je_var 5 rfl) J.lv_val) J.je_int (by decide)) J.je_int) J.lh_own hx9) (J.je_lstv (xs := ([("on" : St9), ("done" : St9)] : List St9)) (J.ja_cons J.je_str (J.ja_cons J.je_str J.ja_nil))) J.lh_own J.lh_own hx10) J.dv_val J.dv_ownL) (fun hp => ?_) (fun hp => ?_)
    · replace h := J.ifT hp h
      have h9 := Option.some.inj h
      subst h9
      exact J.js_ret J.je_bl fun v H o => J.Out.take 0 o
    · replace h := J.ifF hp h
      refine J.js_end ?_
      change J.JS _ _ (⟨[(sV9 (a0 : (List J.Hap))), (sV9 (a1 : Int)), (sV9 (a2 : (List Int))), (sV9 (a3 : Int)), (sV9 (x4.1 : (List J.Hap))), (sV9 (x8.1 : (List St9))), sA9, sA9, sA9, sA9], []⟩ : J.Stt) _ _
      obtain ⟨x14, hx14, h⟩ := J.bndE h
      refine J.js_setLc 6 (z := (sV9 (x14.1 : (List J.Hap)))) (f := m_law_one_right_c2) (el := sV9) (Sf := fun (s11 : Unit) => (⟨[(sV9 (a0 : (List J.Hap))), (sV9 (a1 : Int)), (sV9 (a2 : (List Int))), (sV9 (a3 : Int)), (sV9 (x4.1 : (List J.Hap))), (sV9 (x8.1 : (List St9))), sA9, sA9, sA9, sA9], []⟩ : J.Stt)) (Sb := fun (s11 : Unit) (x13 : J.Hap) => (⟨[(sV9 (a0 : (List J.Hap))), (sV9 (a1 : Int)), (sV9 (a2 : (List Int))), (sV9 (a3 : Int)), (sV9 (x4.1 : (List J.Hap))), (sV9 (x8.1 : (List St9))), sA9, sA9, sA9, (sV9 (x13 : J.Hap))], []⟩ : J.Stt)) (s0 := ()) (own := [(("one" : St9), 9)]) (ws := [9]) (J.lcM_of hx14).2 (J.lcM_of hx14).1 hN (L2.blkOk_by (N := ["told", "k", "line", "wide", "mine", "steps", "asked", "walked", "at", "one"]) (sc := defScope s__law_one_right) (by decide +kernel)) (J.ji_val (xs := x4.1) (J.je_var 4 rfl)) (J.le_fgt 0 (.keep (.keep (.keep (.keep (.keep (.keep (.drop (.drop (.drop (.drop .nil)))))))))) rfl) (fun _ => trivial) (fun _ => J.any_at rfl) (by decide) (fun s11 x13 => fun s91 H91 C91 cl91 fp91 =>  J.inJG hN fun hN => (J.jg_name 9 (hN := hN))) (fun s11 x13 o sZ _ h => by
      unfold m_law_one_right_c2 at h
      by_cases hp : (decide ((J.Hap.len x13) = 3)) = true
      · replace h := J.ifT hp h
        obtain ⟨h8, h9⟩ := Prod.mk.inj (Option.some.inj h)
        subst h8
        subst h9
        exact ⟨true, _, (fun s91 H91 C91 cl91 fp91 =>  J.inJTs hr hN fun hr hN => J.jts_one (J.jt_eq (J.jt_eq' (t := ((J.Hap.len x13) : Int)) (r := (3 : Int)) hr (J.je_hapLen W.l_len (J.je_var 9 rfl)) J.je_int J.dv_val J.dv_val) hp)), fun _ => ⟨_, _, rfl, (fun s91 H91 C91 cl91 fp91 =>  J.inJE hr hN fun hr hN => (J.je_var 9 rfl)), (J.le_fgt 0 (.keep (.keep (.keep (.keep (.keep (.keep (.drop (.drop (.drop (.drop .nil)))))))))) rfl)⟩, nofun⟩
      · rw [Bool.not_eq_true] at hp
        replace h := J.ifF hp h
        obtain ⟨h8, h9⟩ := Prod.mk.inj (Option.some.inj h)
        subst h8
        subst h9
        exact ⟨false, _, (fun s91 H91 C91 cl91 fp91 =>  J.inJTs hr hN fun hr hN => J.jts_one (J.jt_eq (J.jt_eq' (t := ((J.Hap.len x13) : Int)) (r := (3 : Int)) hr (J.je_hapLen W.l_len (J.je_var 9 rfl)) J.je_int J.dv_val J.dv_val) hp)), nofun, fun _ => ⟨rfl, (J.le_fgt 0 (.keep (.keep (.keep (.keep (.keep (.keep (.drop (.drop (.drop (.drop .nil)))))))))) rfl)⟩⟩) (fun h => h.frz (.own (J.fz_val _)) fun G d => .val d) ?_
      obtain ⟨x15, hx15, h⟩ := J.bndE h
      obtain ⟨x23, hx23, h⟩ := J.bndE h
      refine J.js_if (J.JW.t (J.jw_orM hx23 (J.jt_ne' (t := ((J.Hap.wd x15) : St9)) (r := (("on" : St9) : St9)) hr (J.je_hap0 (J.je_ixv (xs := x4.1) (J.je_var 4 rfl) J.je_int J.lv_val hx15) J.je_int) J.je_str J.dv_val J.dv_val) fun _ r h => by
      obtain ⟨x16, hx16, h⟩ := J.bndE h
      obtain ⟨x22, hx22, h⟩ := J.bndE h
      have h9 := Option.some.inj h
      subst h9
      exact (J.jw_orM hx22 (J.jt_ne' (t := ((J.Hap.wd x16) : St9)) (r := (("done" : St9) : St9)) hr (J.je_hap0 (J.je_ixv (xs := x4.1) (J.je_var 4 rfl) (J.je_neg J.je_int) J.lv_val hx16) J.je_int) J.je_str J.dv_val J.dv_val) fun _ r h => by
      obtain ⟨x21, hx21, h⟩ := J.bndE h
      have h9 := Option.some.inj h
      subst h9
      exact (J.jw_or1 (J.jt_ne' (t := (x21.1 : (List Int))) (r := (a2 : (List Int))) hr (J.je_lc (f := m_law_one_right_c3) (el := sV9) (Sf := fun (s17 : Unit) => (⟨[(sV9 (a0 : (List J.Hap))), (sV9 (a1 : Int)), (sV9 (a2 : (List Int))), (sV9 (a3 : Int)), (sV9 (x4.1 : (List J.Hap))), (sV9 (x8.1 : (List St9))), (sV9 (x14.1 : (List J.Hap))), sA9, sA9, sA9], []⟩ : J.Stt)) (Sb := fun (s17 : Unit) (x19 : J.Hap) => (⟨[(sV9 (a0 : (List J.Hap))), (sV9 (a1 : Int)), (sV9 (a2 : (List Int))), (sV9 (a3 : Int)), (sV9 (x4.1 : (List J.Hap))), (sV9 (x8.1 : (List St9))), (sV9 (x14.1 : (List J.Hap))), sA9, sA9, (sV9 (x19 : J.Hap))], []⟩ : J.Stt)) (s0 := ()) (own := [(("one" : St9), 9)]) (ws := [9]) (J.lcM_of hx21).2 (J.lcM_of hx21).1 hN (L2.blkOk_by (N := ["told", "k", "line", "wide", "mine", "steps", "asked", "walked", "at", "one"]) (sc := defScope s__law_one_right) (by decide +kernel)) (J.ji_val (xs := x14.1) (J.je_var 6 rfl)) (J.le_fgt 0 (.keep (.keep (.keep (.keep (.keep (.keep (.keep (.drop (.drop (.drop .nil)))))))))) rfl) (fun _ => trivial) (fun _ => J.any_at rfl) (by decide) (fun s17 x19 => fun s91 H91 C91 cl91 fp91 =>  J.inJG hN fun hN => (J.jg_name 9 (hN := hN))) (fun s17 x19 o sZ _ h => by
      unfold m_law_one_right_c3 at h
      obtain ⟨x20, hx20, h⟩ := J.bndE h
      obtain ⟨h8, h9⟩ := Prod.mk.inj (Option.some.inj h)
      subst h8
      subst h9
      exact ⟨true, _, (fun s91 H91 C91 cl91 fp91 =>  J.jts_nil), fun _ => ⟨_, _, rfl, (fun s91 H91 C91 cl91 fp91 =>  J.inJE hr hN fun hr hN => (J.je_hap2 hx20 (J.je_var 9 rfl) J.je_int)), (J.le_fgt 0 (.keep (.keep (.keep (.keep (.keep (.keep (.keep (.drop (.drop (.drop .nil)))))))))) rfl)⟩, nofun⟩)) (J.je_var 2 rfl) J.dv_ownL J.dv_val))))) (fun hp => ?_) (fun hp => ?_)
      · replace h := J.ifT hp h
        have h9 := Option.some.inj h
        subst h9
        exact J.js_ret J.je_bl fun v H o => J.Out.take 0 o
      · replace h := J.ifF hp h
        refine J.js_end ?_
        change J.JS _ _ (⟨[(sV9 (a0 : (List J.Hap))), (sV9 (a1 : Int)), (sV9 (a2 : (List Int))), (sV9 (a3 : Int)), (sV9 (x4.1 : (List J.Hap))), (sV9 (x8.1 : (List St9))), (sV9 (x14.1 : (List J.Hap))), sA9, sA9, sA9], []⟩ : J.Stt) _ _
        obtain ⟨x24, hx24, h⟩ := J.bndE h
        refine J.js_set (hN := hN) 7 (J.je_frL (J.je_call (f := F_window_walk W) (ok_window_walk W) hr (by decide) W.g_window_walk W.F_window_walk.kp W.b_window_walk (J.ja_cons (J.je_var 2 rfl) (J.ja_cons (J.je_var 3 rfl) J.ja_nil)) (g := (⟨a2, a3, x24⟩ : G_window_walk)) hx24 rfl .nil .nil (hG := fun G e => trivial))) ?_
        change J.JS _ _ (⟨[(sV9 (a0 : (List J.Hap))), (sV9 (a1 : Int)), (sV9 (a2 : (List Int))), (sV9 (a3 : Int)), (sV9 (x4.1 : (List J.Hap))), (sV9 (x8.1 : (List St9))), (sV9 (x14.1 : (List J.Hap))), (sV9 (x24 : (List (PySem.W.T3 Int St9 (PySem.W.Tup Int))))), sA9, sA9], []⟩ : J.Stt) _ _
        obtain ⟨x25, hx25, h⟩ := J.bndE h
        obtain ⟨o38, ho38, h⟩ := J.bndE h
        refine J.js_forLE (π := Unit) (Rr := fun r => J.Out B (R_law_one_right W r) (C_law_one_right W a0 a1 a2 a3 r)) (f := m_law_one_right_b4 x14 x24) (Sf := fun (q27 : Unit) (s26 : Unit) => (⟨[(sV9 (a0 : (List J.Hap))), (sV9 (a1 : Int)), (sV9 (a2 : (List Int))), (sV9 (a3 : Int)), (sV9 (x4.1 : (List J.Hap))), (sV9 (x8.1 : (List St9))), (sV9 (x14.1 : (List J.Hap))), (sV9 (x24 : (List (PySem.W.T3 Int St9 (PySem.W.Tup Int))))), sA9, sA9], []⟩ : J.Stt)) (Sb := fun (q27 : Unit) (s26 : Unit) (x28 : Int) => (⟨[(sV9 (a0 : (List J.Hap))), (sV9 (a1 : Int)), (sV9 (a2 : (List Int))), (sV9 (a3 : Int)), (sV9 (x4.1 : (List J.Hap))), (sV9 (x8.1 : (List St9))), (sV9 (x14.1 : (List J.Hap))), (sV9 (x24 : (List (PySem.W.T3 Int St9 (PySem.W.Tup Int))))), (sV9 (x28 : Int)), sA9], []⟩ : J.Stt)) ho38 (J.ji_rngG W.l_range (J.je_len (n := "len") (xs := a2) W.l_len (J.je_var 2 rfl) J.lv_val) hx25) (fun _ _ _ _ g => ⟨(), J.le_fgt (sl := [(sV9 (a0 : (List J.Hap))), (sV9 (a1 : Int)), (sV9 (a2 : (List Int))), (sV9 (a3 : Int)), (sV9 (x4.1 : (List J.Hap))), (sV9 (x8.1 : (List St9))), (sV9 (x14.1 : (List J.Hap))), (sV9 (x24 : (List (PySem.W.T3 Int St9 (PySem.W.Tup Int))))), sA9, sA9]) (cs := []) 0 (.keep (.keep (.keep (.keep (.keep (.keep (.keep (.keep (.drop (.drop .nil)))))))))) rfl _ _ _ _ g⟩) (fun _ _ => trivial) (fun q27 s26 x28 => (J.jg_name 8 (hN := hN))) (fun q27 s26 x28 o9 _ h => ?_) (fun r e v H hv => by subst e; cases h; exact hv) (fun s37 e q27 => ?_)
        · unfold m_law_one_right_b4 at h
          change J.JS _ _ (⟨[(sV9 (a0 : (List J.Hap))), (sV9 (a1 : Int)), (sV9 (a2 : (List Int))), (sV9 (a3 : Int)), (sV9 (x4.1 : (List J.Hap))), (sV9 (x8.1 : (List St9))), (sV9 (x14.1 : (List J.Hap))), (sV9 (x24 : (List (PySem.W.T3 Int St9 (PySem.W.Tup Int))))), (sV9 (x28 : Int)), sA9], []⟩ : J.Stt) _ _
          obtain ⟨x33, hx33, h⟩ := J.bndE h
          obtain ⟨x34, hx34, h⟩ := J.bndE h
          obtain ⟨x36, hx36, h⟩ := J.bndE h
          refine J.js_if (J.JW.t (J.jw_orM hx36 (J.jt_ne' (t := ((decide ((J.Hap.wd x33) = ("own" : St9))) : Bool)) (r := ((decide (x34.b = ("fault" : St9))) : Bool)) hr (J.jc_eq (t := ((J.Hap.wd x33) : St9)) (r := (("own" : St9) : St9)) hr (J.je_hap0 (J.je_ixv (xs := x14.1) (J.je_var 6 rfl) (J.je_var 8 rfl) J.lv_val hx33) J.je_int) J.je_str J.dv_val J.dv_val) (J.jc_eq (t := (x34.b : St9)) (r := (("fault" : St9) : St9)) hr (J.je_tpix (t := (x34 : (PySem.W.T3 Int St9 (PySem.W.Tup Int)))) (r := (x34.b : St9)) (J.je_ixv (xs := x24) (J.je_var 7 rfl) (J.je_var 8 rfl) J.lv_val hx34) J.je_int rfl rfl) J.je_str J.dv_val J.dv_val) J.dv_val J.dv_val) fun _ r h => by
      obtain ⟨x35, hx35, h⟩ := J.bndE h
      have h9 := Option.some.inj h
      subst h9
      exact (J.jw_or1 (J.jt_notIn (t := ((J.Hap.wd x35) : St9)) (xs := ([("own" : St9), ("back" : St9), ("hit" : St9)] : List St9)) hr (J.je_hap0 (J.je_ixv (xs := x14.1) (J.je_var 6 rfl) (J.je_var 8 rfl) J.lv_val hx35) J.je_int) (J.je_lstv (xs := ([("own" : St9), ("back" : St9), ("hit" : St9)] : List St9)) (J.ja_cons J.je_str (J.ja_cons J.je_str (J.ja_cons J.je_str J.ja_nil)))) J.dv_val J.lv_own')))) (fun hp => ?_) (fun hp => ?_)
          · replace h := J.ifT hp h
            have h9 := Option.some.inj h
            subst h9
            exact J.js_ret J.je_bl fun v H o => ⟨_, rfl, J.Out.take 0 o⟩
          · replace h := J.ifF hp h
            refine J.js_end ?_
            change J.JS _ _ (⟨[(sV9 (a0 : (List J.Hap))), (sV9 (a1 : Int)), (sV9 (a2 : (List Int))), (sV9 (a3 : Int)), (sV9 (x4.1 : (List J.Hap))), (sV9 (x8.1 : (List St9))), (sV9 (x14.1 : (List J.Hap))), (sV9 (x24 : (List (PySem.W.T3 Int St9 (PySem.W.Tup Int))))), (sV9 (x28 : Int)), sA9], []⟩ : J.Stt) _ _
            have h9 := Option.some.inj h
            subst h9
            exact J.js_nil fun T tv σ H g => ⟨_, rfl, (), J.le_fgt (sl := [(sV9 (a0 : (List J.Hap))), (sV9 (a1 : Int)), (sV9 (a2 : (List Int))), (sV9 (a3 : Int)), (sV9 (x4.1 : (List J.Hap))), (sV9 (x8.1 : (List St9))), (sV9 (x14.1 : (List J.Hap))), (sV9 (x24 : (List (PySem.W.T3 Int St9 (PySem.W.Tup Int))))), sA9, sA9]) (cs := []) 0 (.keep (.keep (.keep (.keep (.keep (.keep (.keep (.keep (.drop (.drop .nil)))))))))) rfl _ _ _ _ g⟩
        · subst e
          try rw [Sum.elim_inl] at h
          change J.JS _ _ (⟨[(sV9 (a0 : (List J.Hap))), (sV9 (a1 : Int)), (sV9 (a2 : (List Int))), (sV9 (a3 : Int)), (sV9 (x4.1 : (List J.Hap))), (sV9 (x8.1 : (List St9))), (sV9 (x14.1 : (List J.Hap))), (sV9 (x24 : (List (PySem.W.T3 Int St9 (PySem.W.Tup Int))))), sA9, sA9], []⟩ : J.Stt) _ _
          have h9 := Option.some.inj h
          subst h9
          exact J.js_ret J.je_bl fun v H o => J.Out.take 0 o
structure G_law where
  p0 : PySem.Addr
  a0 : List Int
  out : Bool
abbrev R_law {K : PySem.W.Frag} {mg : Str → Option Value} (W : Wd K mg) (r : Bool) : J.Slot := (sV9 (r : Bool))
abbrev C_law {K : PySem.W.Frag} {mg : Str → Option Value} (W : Wd K mg) (p0 : PySem.Addr) (a0 : List Int) (r : Bool) : List (PySem.Addr × J.Cel) := []
abbrev A_law {K : PySem.W.Frag} {mg : Str → Option Value} (W : Wd K mg) (p0 : PySem.Addr) (a0 : List Int) : List J.Slot := [(sR9 (.ref p0))]
abbrev D_law {K : PySem.W.Frag} {mg : Str → Option Value} (W : Wd K mg) (p0 : PySem.Addr) (a0 : List Int) : List (PySem.Addr × J.Cel) := []
def F_law {K : PySem.W.Frag} {mg : Str → Option Value} (W : Wd K mg)  : J.FS G_law where
  pre := fun g => m_law g.a0 = some g.out
  preG := fun g G => L2.SqL K G g.p0 (g.a0.map V.int)
  args := fun g => A_law W g.p0 g.a0
  cells := fun g => D_law W g.p0 g.a0
  res := fun g => R_law W g.out
  cells' := fun g => C_law W g.p0 g.a0 g.out
theorem ok_law (W : Wd K mg) : FnOk P w K mg base CX0 9 W.a_law W.d_law ["script"] (F_law (W)).sp := by
  refine J.fn_okD (F_law (W)) W.F_law sc_law (fun g => rfl) (fun g => by intro s hs; simp only [F_law, List.mem_cons, List.not_mem_nil, or_false] at hs; rcases hs with rfl <;> first | rfl | exact J.xsl_plain) (fun cdv A outer s H E hr B g h hG => ?_)
  have hN := (sc_law).nd
  obtain ⟨p0, a0, r0⟩ := g
  change m_law a0 = some r0 at h
  unfold m_law at h
  change J.JS _ B (⟨[(sR9 (.ref p0)), sA9, sA9, sA9, sA9, sA9, sA9, sA9, sA9, sA9, sA9, sA9, sA9], []⟩ : J.Stt) _ (J.fend B (F_law (W)) ⟨p0, a0, r0⟩)
  obtain ⟨x1, hx1, h⟩ := J.bndE h
  refine J.js_new (hN := hN) 1 (J.je_call (f := F_law_bag W) (ok_law_bag W) hr (by decide) W.g__law_bag W.F__law_bag.kp W.b__law_bag (J.ja_cons (J.je_var 0 rfl) J.ja_nil) (g := (⟨p0, a0, x1⟩ : G_law_bag)) hx1 rfl .nil .nil (hG := fun G e => J.sql_mono hG e)) fun p2 => ?_
  change J.JS _ _ (⟨[(sR9 (.ref p0)), (sR9 (.ref p2)), sA9, sA9, sA9, sA9, sA9, sA9, sA9, sA9, sA9, sA9, sA9], [(p2, (cL9 [(sO9 (cL9 ((x1.1 : List Int).map sV9))), (sV9 (x1.2.1 : Int)), (sV9 (x1.2.2 : Int))]))]⟩ : J.Stt) _ _
  obtain ⟨x3, hx3, h⟩ := J.bndE h
  refine J.js_set (hN := hN) 2 (J.je_frL (J.je_call (f := F_law_lot W) (ok_law_lot W) hr (by decide) W.g__law_lot W.F__law_lot.kp W.b__law_lot (J.ja_cons (J.je_var 1 rfl) J.ja_nil) (g := (⟨p2, x1.1, x1.2.1, x1.2.2, x3⟩ : G_law_lot)) hx3 rfl (.cons 0 rfl (by nofun) .nil) (.cons 0 rfl .nil) (hG := fun G e => trivial))) ?_
  change J.JS _ _ (⟨[(sR9 (.ref p0)), (sR9 (.ref p2)), (sV9 (x3.1 : (List ((List Int) × Int)))), sA9, sA9, sA9, sA9, sA9, sA9, sA9, sA9, sA9, sA9], [(p2, (cL9 [(sO9 (cL9 ((x3.2.1 : List Int).map sV9))), (sV9 (x1.2.1 : Int)), (sV9 (x3.2.2 : Int))]))]⟩ : J.Stt) _ _
  obtain ⟨x4, hx4, h⟩ := J.bndE h
  obtain ⟨o38, ho38, h⟩ := J.bndE h
  refine J.js_forLE (π := Unit) (Rr := fun r => J.Out B (R_law W r) (C_law W p0 a0 r)) (f := m_law_b2 x1 x3) (Sf := fun (q6 : Unit) (s5 : ((List Int) × Int)) => (⟨[(sR9 (.ref p0)), (sR9 (.ref p2)), (sV9 (x3.1 : (List ((List Int) × Int)))), sA9, sA9, sA9, sA9, sA9, sA9, sA9, sA9, sA9, sA9], [(p2, (cL9 [(sO9 (cL9 ((s5.1 : List Int).map sV9))), (sV9 (x1.2.1 : Int)), (sV9 (s5.2 : Int))]))]⟩ : J.Stt)) (Sb := fun (q6 : Unit) (s5 : ((List Int) × Int)) (x7 : Int) => (⟨[(sR9 (.ref p0)), (sR9 (.ref p2)), (sV9 (x3.1 : (List ((List Int) × Int)))), (sV9 (x7 : Int)), sA9, sA9, sA9, sA9, sA9, sA9, sA9, sA9, sA9], [(p2, (cL9 [(sO9 (cL9 ((s5.1 : List Int).map sV9))), (sV9 (x1.2.1 : Int)), (sV9 (s5.2 : Int))]))]⟩ : J.Stt)) ho38 (J.ji_rngG W.l_range J.je_int hx4) (fun _ _ _ _ g => ⟨(), J.le_fgt (sl := [(sR9 (.ref p0)), (sR9 (.ref p2)), (sV9 (x3.1 : (List ((List Int) × Int)))), sA9, sA9, sA9, sA9, sA9, sA9, sA9, sA9, sA9, sA9]) (cs := [(p2, (cL9 [(sO9 (cL9 (((x3.2.1, x3.2.2).1 : List Int).map sV9))), (sV9 (x1.2.1 : Int)), (sV9 ((x3.2.1, x3.2.2).2 : Int))]))]) 1 (.keep (.keep (.keep (.drop (.drop (.drop (.drop (.drop (.drop (.drop (.drop (.drop (.drop .nil))))))))))))) rfl _ _ _ _ g⟩) (fun _ _ => trivial) (fun q6 s5 x7 => (J.jg_name 3 (hN := hN))) (fun q6 s5 x7 o9 _ h => ?_) (fun r e v H hv => by subst e; cases h; exact hv) (fun s37 e q6 => ?_)
  · unfold m_law_b2 at h
    change J.JS _ _ (⟨[(sR9 (.ref p0)), (sR9 (.ref p2)), (sV9 (x3.1 : (List ((List Int) × Int)))), (sV9 (x7 : Int)), sA9, sA9, sA9, sA9, sA9, sA9, sA9, sA9, sA9], [(p2, (cL9 [(sO9 (cL9 ((s5.1 : List Int).map sV9))), (sV9 (x1.2.1 : Int)), (sV9 (s5.2 : Int))]))]⟩ : J.Stt) _ _
    obtain ⟨x12, hx12, h⟩ := J.bndE h
    refine J.js_set (hN := hN) 4 (J.je_call (f := F_law_many W) (ok_law_many W) hr (by decide) W.g__law_many W.F__law_many.kp W.b__law_many (J.ja_cons (J.je_var 1 rfl) (J.ja_cons (J.je_var 2 rfl) J.ja_nil)) (g := (⟨p2, x3.1, s5.1, x1.2.1, s5.2, x12⟩ : G_law_many)) hx12 rfl (.cons 0 rfl (by nofun) .nil) (.cons 0 rfl .nil) (hG := fun G e => trivial)) ?_
    change J.JS _ _ (⟨[(sR9 (.ref p0)), (sR9 (.ref p2)), (sV9 (x3.1 : (List ((List Int) × Int)))), (sV9 (x7 : Int)), (sV9 (x12.1 : Int)), sA9, sA9, sA9, sA9, sA9, sA9, sA9, sA9], [(p2, (cL9 [(sO9 (cL9 ((x12.2.1 : List Int).map sV9))), (sV9 (x1.2.1 : Int)), (sV9 (x12.2.2 : Int))]))]⟩ : J.Stt) _ _
    obtain ⟨x13, hx13, h⟩ := J.bndE h
    refine J.js_set (hN := hN) 5 (J.je_call (f := F_law_size W) (ok_law_size W) hr (by decide) W.g__law_size W.F__law_size.kp W.b__law_size (J.ja_cons (J.je_var 1 rfl) J.ja_nil) (g := (⟨p2, x12.2.1, x1.2.1, x12.2.2, x13⟩ : G_law_size)) hx13 rfl (.cons 0 rfl (by nofun) .nil) (.cons 0 rfl .nil) (hG := fun G e => trivial)) ?_
    change J.JS _ _ (⟨[(sR9 (.ref p0)), (sR9 (.ref p2)), (sV9 (x3.1 : (List ((List Int) × Int)))), (sV9 (x7 : Int)), (sV9 (x12.1 : Int)), (sV9 (x13.1 : Int)), sA9, sA9, sA9, sA9, sA9, sA9, sA9], [(p2, (cL9 [(sO9 (cL9 ((x13.2.1 : List Int).map sV9))), (sV9 (x1.2.1 : Int)), (sV9 (x13.2.2 : Int))]))]⟩ : J.Stt) _ _
    obtain ⟨x14, hx14, h⟩ := J.bndE h
    refine J.js_set (hN := hN) 6 (J.je_frL (J.je_callN (f := F_story W) (ok_story W) hr (by decide) W.g_story W.F_story.kp (kbe_story_0 W) (J.ja_cons (J.je_var 2 rfl) (J.ja_cons (J.je_var 4 rfl) J.ja_nil)) (J.jk_cons (J.je_var 5 rfl) J.jk_nil) (g := (⟨x3.1, x12.1, x13.1, x14⟩ : G_story)) hx14 rfl rfl (fun {T} {σ} {vs} {ws} {tv} {H} hl hl2 h => by
      match vs, ws, hl, hl2, h with
      | [v0, v1], [w0], _, _, h =>
        have h := J.Sta.rot (xs := [_, _]) (T := [] ++ T) (vs := [w0, v0]) (u := v1) (tv := [] ++ tv) rfl h
        have h := J.Sta.rot (xs := [_, _]) (T := [] ++ T) (vs := [v1, w0]) (u := v0) (tv := [] ++ tv) rfl h
        exact ⟨rfl, h⟩) .nil .nil (hG := fun G e => trivial))) ?_
    obtain ⟨x15, hx15, h⟩ := J.bndE h
    refine J.js_set (hN := hN) 7 (J.je_frL (J.je_callN (f := F_job_faults W) (ok_job_faults W) hr (by decide) W.g_job_faults W.F_job_faults.kp (kbe_job_faults_1 W) (J.ja_cons (J.je_var 2 rfl) (J.ja_cons (J.je_var 4 rfl) J.ja_nil)) (J.jk_cons (J.je_var 5 rfl) J.jk_nil) (g := (⟨x3.1, x12.1, x13.1, x15⟩ : G_job_faults)) hx15 rfl rfl (fun {T} {σ} {vs} {ws} {tv} {H} hl hl2 h => by
      match vs, ws, hl, hl2, h with
      | [v0, v1], [w0], _, _, h =>
        have h := J.Sta.rot (xs := [_, _]) (T := [] ++ T) (vs := [w0, v0]) (u := v1) (tv := [] ++ tv) rfl h
        have h := J.Sta.rot (xs := [_, _]) (T := [] ++ T) (vs := [v1, w0]) (u := v0) (tv := [] ++ tv) rfl h
        exact ⟨rfl, h⟩) .nil .nil (hG := fun G e => trivial))) ?_
    obtain ⟨x17, hx17, h⟩ := J.bndE h
    refine J.js_if (J.JW.t (J.jw_orM hx17 (J.jt_ne' (t := (((x15).length : Int) : Int)) (r := (((x3.1).length : Int) : Int)) hr (J.je_len (n := "len") (xs := x15) W.l_len (J.je_var 7 rfl) J.lv_val) (J.je_len (n := "len") (xs := x3.1) W.l_len (J.je_var 2 rfl) J.lv_val) J.dv_val J.dv_val) fun _ r h => by
      obtain ⟨x16, hx16, h⟩ := J.bndE h
      have h9 := Option.some.inj h
      subst h9
      exact (J.jw_or1 (J.jt_not (J.jt_bl (J.je_call (f := F_law_turns_right W) (ok_law_turns_right W) hr (by decide) W.g__law_turns_right W.F__law_turns_right.kp W.b__law_turns_right (J.ja_cons (J.je_var 6 rfl) (J.ja_cons (J.je_var 5 rfl) J.ja_nil)) (g := (⟨x14, x13.1, x16⟩ : G_law_turns_right)) hx16 rfl .nil .nil (hG := fun G e => trivial))))))) (fun hp => ?_) (fun hp => ?_)
    · replace h := J.ifT hp h
      change J.JS _ _ (⟨[(sR9 (.ref p0)), (sR9 (.ref p2)), (sV9 (x3.1 : (List ((List Int) × Int)))), (sV9 (x7 : Int)), (sV9 (x12.1 : Int)), (sV9 (x13.1 : Int)), (sV9 (x14 : (List J.Hap))), (sV9 (x15 : (List (Int × Int)))), sA9, sA9, sA9, sA9, sA9], [(p2, (cL9 [(sO9 (cL9 ((x13.2.1 : List Int).map sV9))), (sV9 (x1.2.1 : Int)), (sV9 (x13.2.2 : Int))]))]⟩ : J.Stt) _ _
      have h9 := Option.some.inj h
      subst h9
      exact J.js_ret J.je_bl fun v H o => ⟨_, rfl, J.Out.take 0 o⟩
    · replace h := J.ifF hp h
      change J.JS _ _ (⟨[(sR9 (.ref p0)), (sR9 (.ref p2)), (sV9 (x3.1 : (List ((List Int) × Int)))), (sV9 (x7 : Int)), (sV9 (x12.1 : Int)), (sV9 (x13.1 : Int)), (sV9 (x14 : (List J.Hap))), (sV9 (x15 : (List (Int × Int)))), sA9, sA9, sA9, sA9, sA9], [(p2, (cL9 [(sO9 (cL9 ((x13.2.1 : List Int).map sV9))), (sV9 (x1.2.1 : Int)), (sV9 (x13.2.2 : Int))]))]⟩ : J.Stt) _ _
      refine J.js_end ?_
      change J.JS _ _ (⟨[(sR9 (.ref p0)), (sR9 (.ref p2)), (sV9 (x3.1 : (List ((List Int) × Int)))), (sV9 (x7 : Int)), (sV9 (x12.1 : Int)), (sV9 (x13.1 : Int)), (sV9 (x14 : (List J.Hap))), (sV9 (x15 : (List (Int × Int)))), sA9, sA9, sA9, sA9, sA9], [(p2, (cL9 [(sO9 (cL9 ((x13.2.1 : List Int).map sV9))), (sV9 (x1.2.1 : Int)), (sV9 (x13.2.2 : Int))]))]⟩ : J.Stt) _ _
      obtain ⟨x18, hx18, h⟩ := J.bndE h
      obtain ⟨o36, ho36, h⟩ := J.bndE h
      refine J.js_forLE (π := Unit) (Rr := fun r => J.Out B (R_law W r) (C_law W p0 a0 r)) (f := m_law_b1 x3 x14 x15) (Sf := fun (q20 : Unit) (s19 : Unit) => (⟨[(sR9 (.ref p0)), (sR9 (.ref p2)), (sV9 (x3.1 : (List ((List Int) × Int)))), (sV9 (x7 : Int)), (sV9 (x12.1 : Int)), (sV9 (x13.1 : Int)), (sV9 (x14 : (List J.Hap))), (sV9 (x15 : (List (Int × Int)))), sA9, sA9, sA9, sA9, sA9], [(p2, (cL9 [(sO9 (cL9 ((x13.2.1 : List Int).map sV9))), (sV9 (x1.2.1 : Int)), (sV9 (x13.2.2 : Int))]))]⟩ : J.Stt)) (Sb := fun (q20 : Unit) (s19 : Unit) (x21 : Int) => (⟨[(sR9 (.ref p0)), (sR9 (.ref p2)), (sV9 (x3.1 : (List ((List Int) × Int)))), (sV9 (x7 : Int)), (sV9 (x12.1 : Int)), (sV9 (x13.1 : Int)), (sV9 (x14 : (List J.Hap))), (sV9 (x15 : (List (Int × Int)))), (sV9 (x21 : Int)), sA9, sA9, sA9, sA9], [(p2, (cL9 [(sO9 (cL9 ((x13.2.1 : List Int).map sV9))), (sV9 (x1.2.1 : Int)), (sV9 (x13.2.2 : Int))]))]⟩ : J.Stt)) ho36 (J.ji_rngG W.l_range (J.je_len (n := "len") (xs := x3.1) W.l_len (J.je_var 2 rfl) J.lv_val) hx18) (fun _ _ _ _ g => ⟨(), J.le_fgt (sl := [(sR9 (.ref p0)), (sR9 (.ref p2)), (sV9 (x3.1 : (List ((List Int) × Int)))), (sV9 (x7 : Int)), (sV9 (x12.1 : Int)), (sV9 (x13.1 : Int)), (sV9 (x14 : (List J.Hap))), (sV9 (x15 : (List (Int × Int)))), sA9, sA9, sA9, sA9, sA9]) (cs := [(p2, (cL9 [(sO9 (cL9 ((x13.2.1 : List Int).map sV9))), (sV9 (x1.2.1 : Int)), (sV9 (x13.2.2 : Int))]))]) 1 (.keep (.keep (.keep (.keep (.keep (.keep (.keep (.keep (.drop (.drop (.drop (.drop (.drop .nil))))))))))))) rfl _ _ _ _ g⟩) (fun _ _ => trivial) (fun q20 s19 x21 => (J.jg_name 8 (hN := hN))) (fun q20 s19 x21 o9 _ h => ?_) (fun r e v H hv => by subst e; cases h; exact ⟨_, rfl, hv⟩) (fun s35 e q20 => ?_)
      · unfold m_law_b1 at h
        change J.JS _ _ (⟨[(sR9 (.ref p0)), (sR9 (.ref p2)), (sV9 (x3.1 : (List ((List Int) × Int)))), (sV9 (x7 : Int)), (sV9 (x12.1 : Int)), (sV9 (x13.1 : Int)), (sV9 (x14 : (List J.Hap))), (sV9 (x15 : (List (Int × Int)))), (sV9 (x21 : Int)), sA9, sA9, sA9, sA9], [(p2, (cL9 [(sO9 (cL9 ((x13.2.1 : List Int).map sV9))), (sV9 (x1.2.1 : Int)), (sV9 (x13.2.2 : Int))]))]⟩ : J.Stt) _ _
        obtain ⟨x26, hx26, h⟩ := J.bndE h
        refine J.js_asg (J.je_ixv (xs := x3.1) (J.je_var 2 rfl) (J.je_var 8 rfl) J.lv_val hx26) (J.jg_pair (J.jgs_cons (J.jg_name 10 (hN := hN)) (J.jgs_cons (J.jg_name 11 (hN := hN)) J.jgs_nil))) ?_
        change J.JS _ _ (⟨[(sR9 (.ref p0)), (sR9 (.ref p2)), (sV9 (x3.1 : (List ((List Int) × Int)))), (sV9 (x7 : Int)), (sV9 (x12.1 : Int)), (sV9 (x13.1 : Int)), (sV9 (x14 : (List J.Hap))), (sV9 (x15 : (List (Int × Int)))), (sV9 (x21 : Int)), sA9, (sV9 (x26.1 : (List Int))), (sV9 (x26.2 : Int)), sA9], [(p2, (cL9 [(sO9 (cL9 ((x13.2.1 : List Int).map sV9))), (sV9 (x1.2.1 : Int)), (sV9 (x13.2.2 : Int))]))]⟩ : J.Stt) _ _
        obtain ⟨x27, hx27, h⟩ := J.bndE h
        obtain ⟨x31, hx31, h⟩ := J.bndE h
        refine J.js_set (hN := hN) 9 (J.je_len (n := "len") (xs := x31.1) W.l_len (J.je_lc (f := m_law_c0) (el := sV9) (Sf := fun (s28 : Unit) => (⟨[(sR9 (.ref p0)), (sR9 (.ref p2)), (sV9 (x3.1 : (List ((List Int) × Int)))), (sV9 (x7 : Int)), (sV9 (x12.1 : Int)), (sV9 (x13.1 : Int)), (sV9 (x14 : (List J.Hap))), (sV9 (x15 : (List (Int × Int)))), (sV9 (x21 : Int)), sA9, (sV9 (x26.1 : (List Int))), (sV9 (x26.2 : Int)), sA9], [(p2, (cL9 [(sO9 (cL9 ((x13.2.1 : List Int).map sV9))), (sV9 (x1.2.1 : Int)), (sV9 (x13.2.2 : Int))]))]⟩ : J.Stt)) (Sb := fun (s28 : Unit) (x30 : (PySem.W.T3 Int St9 (PySem.W.Tup Int))) => (⟨[(sR9 (.ref p0)), (sR9 (.ref p2)), (sV9 (x3.1 : (List ((List Int) × Int)))), (sV9 (x7 : Int)), (sV9 (x12.1 : Int)), (sV9 (x13.1 : Int)), (sV9 (x14 : (List J.Hap))), (sV9 (x15 : (List (Int × Int)))), (sV9 (x21 : Int)), sA9, (sV9 (x26.1 : (List Int))), (sV9 (x26.2 : Int)), (sV9 (x30 : (PySem.W.T3 Int St9 (PySem.W.Tup Int))))], [(p2, (cL9 [(sO9 (cL9 ((x13.2.1 : List Int).map sV9))), (sV9 (x1.2.1 : Int)), (sV9 (x13.2.2 : Int))]))]⟩ : J.Stt)) (s0 := ()) (own := [(("one" : St9), 12)]) (ws := [12]) (J.lcM_of hx31).2 (J.lcM_of hx31).1 hN (L2.blkOk_by (N := ["script", "bag", "lot", "turned", "many", "size", "told", "counts", "k", "due", "line", "wide", "one"]) (sc := defScope s_law) (by decide +kernel)) (J.ji_own (xs := x27) (J.je_call (f := F_window_walk W) (ok_window_walk W) hr (by decide) W.g_window_walk W.F_window_walk.kp W.b_window_walk (J.ja_cons (J.je_var 10 rfl) (J.ja_cons (J.je_var 11 rfl) J.ja_nil)) (g := (⟨x26.1, x26.2, x27⟩ : G_window_walk)) hx27 rfl .nil .nil (hG := fun G e => trivial))) (J.le_fgt 1 (.keep (.keep (.keep (.keep (.keep (.keep (.keep (.keep (.keep (.drop (.keep (.keep (.drop .nil))))))))))))) rfl) (fun _ => trivial) (fun _ => J.any_at rfl) (by decide) (fun s28 x30 => fun s91 H91 C91 cl91 fp91 =>  J.inJG hN fun hN => (J.jg_name 12 (hN := hN))) (fun s28 x30 o sZ _ h => by
      unfold m_law_c0 at h
      by_cases hp : (decide (x30.b = ("fault" : St9))) = true
      · replace h := J.ifT hp h
        obtain ⟨h8, h9⟩ := Prod.mk.inj (Option.some.inj h)
        subst h8
        subst h9
        exact ⟨true, _, (fun s91 H91 C91 cl91 fp91 =>  J.inJTs hr hN fun hr hN => J.jts_one (J.jt_eq (J.jt_eq' (t := (x30.b : St9)) (r := (("fault" : St9) : St9)) hr (J.je_tpix (t := (x30 : (PySem.W.T3 Int St9 (PySem.W.Tup Int)))) (r := (x30.b : St9)) (J.je_var 12 rfl) J.je_int rfl rfl) J.je_str J.dv_val J.dv_val) hp)), fun _ => ⟨_, _, rfl, (fun s91 H91 C91 cl91 fp91 =>  J.inJE hr hN fun hr hN => J.je_int), (J.le_fgt 1 (.keep (.keep (.keep (.keep (.keep (.keep (.keep (.keep (.keep (.drop (.keep (.keep (.drop .nil))))))))))))) rfl)⟩, nofun⟩
      · rw [Bool.not_eq_true] at hp
        replace h := J.ifF hp h
        obtain ⟨h8, h9⟩ := Prod.mk.inj (Option.some.inj h)
        subst h8
        subst h9
        exact ⟨false, _, (fun s91 H91 C91 cl91 fp91 =>  J.inJTs hr hN fun hr hN => J.jts_one (J.jt_eq (J.jt_eq' (t := (x30.b : St9)) (r := (("fault" : St9) : St9)) hr (J.je_tpix (t := (x30 : (PySem.W.T3 Int St9 (PySem.W.Tup Int)))) (r := (x30.b : St9)) (J.je_var 12 rfl) J.je_int rfl rfl) J.je_str J.dv_val J.dv_val) hp)), nofun, fun _ => ⟨rfl, (J.le_fgt 1 (.keep (.keep (.keep (.keep (.keep (.keep (.keep (.keep (.keep (.drop (.keep (.keep (.drop .nil))))))))))))) rfl)⟩⟩)) J.lv_own') ?_
        change J.JS _ _ (⟨[(sR9 (.ref p0)), (sR9 (.ref p2)), (sV9 (x3.1 : (List ((List Int) × Int)))), (sV9 (x7 : Int)), (sV9 (x12.1 : Int)), (sV9 (x13.1 : Int)), (sV9 (x14 : (List J.Hap))), (sV9 (x15 : (List (Int × Int)))), (sV9 (x21 : Int)), (sV9 (((x31.1).length : Int) : Int)), (sV9 (x26.1 : (List Int))), (sV9 (x26.2 : Int)), sA9], [(p2, (cL9 [(sO9 (cL9 ((x13.2.1 : List Int).map sV9))), (sV9 (x1.2.1 : Int)), (sV9 (x13.2.2 : Int))]))]⟩ : J.Stt) _ _
        obtain ⟨x32, hx32, h⟩ := J.bndE h
        obtain ⟨x34, hx34, h⟩ := J.bndE h
        refine J.js_if (J.JW.t (J.jw_orM hx34 (J.jt_not (J.jt_bl (J.je_call (f := F_law_one_right W) (ok_law_one_right W) hr (by decide) W.g__law_one_right W.F__law_one_right.kp W.b__law_one_right (J.ja_cons (J.je_var 6 rfl) (J.ja_cons (J.je_var 8 rfl) (J.ja_cons (J.je_var 10 rfl) (J.ja_cons (J.je_var 11 rfl) J.ja_nil)))) (g := (⟨x14, x21, x26.1, x26.2, x32⟩ : G_law_one_right)) hx32 rfl .nil .nil (hG := fun G e => trivial)))) fun _ r h => by
      obtain ⟨x33, hx33, h⟩ := J.bndE h
      have h9 := Option.some.inj h
      subst h9
      exact (J.jw_or1 (J.jt_ne' (t := (x33.1 : Int)) (r := (((x31.1).length : Int) : Int)) hr (J.je_tpix (t := (x33 : (Int × Int))) (r := (x33.1 : Int)) (J.je_ixv (xs := x15) (J.je_var 7 rfl) (J.je_var 8 rfl) J.lv_val hx33) J.je_int rfl rfl) (J.je_var 9 rfl) J.dv_val J.dv_val)))) (fun hp => ?_) (fun hp => ?_)
        · replace h := J.ifT hp h
          change J.JS _ _ (⟨[(sR9 (.ref p0)), (sR9 (.ref p2)), (sV9 (x3.1 : (List ((List Int) × Int)))), (sV9 (x7 : Int)), (sV9 (x12.1 : Int)), (sV9 (x13.1 : Int)), (sV9 (x14 : (List J.Hap))), (sV9 (x15 : (List (Int × Int)))), (sV9 (x21 : Int)), (sV9 (((x31.1).length : Int) : Int)), (sV9 (x26.1 : (List Int))), (sV9 (x26.2 : Int)), sA9], [(p2, (cL9 [(sO9 (cL9 ((x13.2.1 : List Int).map sV9))), (sV9 (x1.2.1 : Int)), (sV9 (x13.2.2 : Int))]))]⟩ : J.Stt) _ _
          have h9 := Option.some.inj h
          subst h9
          exact J.js_ret J.je_bl fun v H o => ⟨_, rfl, J.Out.take 0 o⟩
        · replace h := J.ifF hp h
          change J.JS _ _ (⟨[(sR9 (.ref p0)), (sR9 (.ref p2)), (sV9 (x3.1 : (List ((List Int) × Int)))), (sV9 (x7 : Int)), (sV9 (x12.1 : Int)), (sV9 (x13.1 : Int)), (sV9 (x14 : (List J.Hap))), (sV9 (x15 : (List (Int × Int)))), (sV9 (x21 : Int)), (sV9 (((x31.1).length : Int) : Int)), (sV9 (x26.1 : (List Int))), (sV9 (x26.2 : Int)), sA9], [(p2, (cL9 [(sO9 (cL9 ((x13.2.1 : List Int).map sV9))), (sV9 (x1.2.1 : Int)), (sV9 (x13.2.2 : Int))]))]⟩ : J.Stt) _ _
          refine J.js_end ?_
          change J.JS _ _ (⟨[(sR9 (.ref p0)), (sR9 (.ref p2)), (sV9 (x3.1 : (List ((List Int) × Int)))), (sV9 (x7 : Int)), (sV9 (x12.1 : Int)), (sV9 (x13.1 : Int)), (sV9 (x14 : (List J.Hap))), (sV9 (x15 : (List (Int × Int)))), (sV9 (x21 : Int)), (sV9 (((x31.1).length : Int) : Int)), (sV9 (x26.1 : (List Int))), (sV9 (x26.2 : Int)), sA9], [(p2, (cL9 [(sO9 (cL9 ((x13.2.1 : List Int).map sV9))), (sV9 (x1.2.1 : Int)), (sV9 (x13.2.2 : Int))]))]⟩ : J.Stt) _ _
          have h9 := Option.some.inj h
          subst h9
          exact J.js_nil fun T tv σ H g => ⟨_, rfl, (), J.le_fgt (sl := [(sR9 (.ref p0)), (sR9 (.ref p2)), (sV9 (x3.1 : (List ((List Int) × Int)))), (sV9 (x7 : Int)), (sV9 (x12.1 : Int)), (sV9 (x13.1 : Int)), (sV9 (x14 : (List J.Hap))), (sV9 (x15 : (List (Int × Int)))), sA9, sA9, sA9, sA9, sA9]) (cs := [(p2, (cL9 [(sO9 (cL9 ((x13.2.1 : List Int).map sV9))), (sV9 (x1.2.1 : Int)), (sV9 (x13.2.2 : Int))]))]) 1 (.keep (.keep (.keep (.keep (.keep (.keep (.keep (.keep (.drop (.drop (.drop (.drop (.drop .nil))))))))))))) rfl _ _ _ _ g⟩
      · subst e
        try rw [Sum.elim_inl] at h
        change J.JS _ _ (⟨[(sR9 (.ref p0)), (sR9 (.ref p2)), (sV9 (x3.1 : (List ((List Int) × Int)))), (sV9 (x7 : Int)), (sV9 (x12.1 : Int)), (sV9 (x13.1 : Int)), (sV9 (x14 : (List J.Hap))), (sV9 (x15 : (List (Int × Int)))), sA9, sA9, sA9, sA9, sA9], [(p2, (cL9 [(sO9 (cL9 ((x13.2.1 : List Int).map sV9))), (sV9 (x1.2.1 : Int)), (sV9 (x13.2.2 : Int))]))]⟩ : J.Stt) _ _
        have h9 := Option.some.inj h
        subst h9
        exact J.js_nil fun T tv σ H g => ⟨_, rfl, (), J.le_fgt (sl := [(sR9 (.ref p0)), (sR9 (.ref p2)), (sV9 (x3.1 : (List ((List Int) × Int)))), sA9, sA9, sA9, sA9, sA9, sA9, sA9, sA9, sA9, sA9]) (cs := [(p2, (cL9 [(sO9 (cL9 (((x13.2.1, x13.2.2).1 : List Int).map sV9))), (sV9 (x1.2.1 : Int)), (sV9 ((x13.2.1, x13.2.2).2 : Int))]))]) 1 (.keep (.keep (.keep (.drop (.drop (.drop (.drop (.drop (.drop (.drop (.drop (.drop (.drop .nil))))))))))))) rfl _ _ _ _ g⟩
  · subst e
    try rw [Sum.elim_inl] at h
    change J.JS _ _ (⟨[(sR9 (.ref p0)), (sR9 (.ref p2)), (sV9 (x3.1 : (List ((List Int) × Int)))), sA9, sA9, sA9, sA9, sA9, sA9, sA9, sA9, sA9, sA9], [(p2, (cL9 [(sO9 (cL9 ((s37.1 : List Int).map sV9))), (sV9 (x1.2.1 : Int)), (sV9 (s37.2 : Int))]))]⟩ : J.Stt) _ _
    have h9 := Option.some.inj h
    subst h9
    exact J.js_ret J.je_bl fun v H o => J.Out.take 0 o
end
end Gk31
namespace J
universe u w
def Tot {α : Type u} (m : Option α) (P : α → Prop) : Prop := ∃ r, m = some r ∧ P r
theorem tot_some {α : Type u} {x : α} {P : α → Prop} (h : P x) : Tot (some x) P := ⟨x, rfl, h⟩
theorem tot_bind {α : Type u} {β : Type w} {m : Option α} {f : α → Option β} {P : α → Prop} {Q : β → Prop} (h : Tot m P) (k : ∀ x, P x → Tot (f x) Q) : Tot (m.bind f) Q := by
  obtain ⟨r, rfl, hr⟩ := h
  exact k r hr
theorem tot_let {α : Type u} {β : Type w} {x : α} {f : α → Option β} {Q : β → Prop} (h : Tot (f x) Q) : Tot ((some x).bind f) Q := h
theorem tot_ite {α : Type u} {c : Bool} {a b : Option α} {P : α → Prop} (h1 : c = true → Tot a P) (h2 : c = false → Tot b P) : Tot (if c = true then a else b) P := by
  cases c with
  | true => exact h1 rfl
  | false => exact h2 rfl
theorem cmpM_cons {ι α β : Type} {f : ι → α → Option (Option β × ι)} {x : α} {xs : List α} {s : ι} : cmpM f (x :: xs) s = (f s x).bind fun r => (cmpM f xs r.2).bind fun q => some ((match r.1 with | some y => y :: q.1 | none => q.1), q.2) := by
  show Option.bind (f s x) _ = _
  cases f s x with
  | none => rfl
  | some r =>
    obtain ⟨o, s'⟩ := r
    show Option.bind (cmpM f xs s') _ = Option.bind (cmpM f xs s') _
    cases cmpM f xs s' with
    | none => rfl
    | some q =>
      obtain ⟨ys, s2⟩ := q
      cases o <;> rfl
theorem cmpM_fm {α β : Type} {f : Unit → α → Option (Option β × Unit)} {g : α → Option β} : ∀ {xs : List α}, (∀ x ∈ xs, f () x = some (g x, ())) → cmpM f xs () = some (xs.filterMap g, ())
  | [], _ => rfl
  | x :: xs, h => by
    rw [cmpM_cons, h x List.mem_cons_self]
    show (cmpM f xs ()).bind _ = _
    rw [cmpM_fm fun y hy => h y (List.mem_cons_of_mem _ hy), List.filterMap_cons]
    cases e : g x with
    | none => simp [e]
    | some y => simp [e]
theorem lcM_fm {α β : Type} {f : Unit → α → Option (Option β × Unit)} {g : α → Option β} {xs : List α} (h : ∀ x ∈ xs, f () x = some (g x, ())) (hl : xs.length ≤ 16777216) : lcM f xs () = some (xs.filterMap g, ()) := by
  unfold lcM
  rw [if_pos hl, cmpM_fm h]
theorem lcM_map {α β : Type} {f : Unit → α → Option (Option β × Unit)} {g : α → β} {xs : List α} (h : ∀ x ∈ xs, f () x = some (some (g x), ())) (hl : xs.length ≤ 16777216) : lcM f xs () = some (xs.map g, ()) := by
  rw [lcM_fm (g := fun x => some (g x)) h hl]
  congr 2
  induction xs with
  | nil => rfl
  | cons x xs ih => rw [List.filterMap_cons]; simp
theorem lcM_filter {α : Type} {f : Unit → α → Option (Option α × Unit)} {p : α → Bool} {xs : List α} (h : ∀ x ∈ xs, f () x = some (if p x = true then some x else none, ())) (hl : xs.length ≤ 16777216) : lcM f xs () = some (xs.filter p, ()) := by
  rw [lcM_fm (g := fun x => if p x = true then some x else none) h hl]
  congr 2
  clear h hl
  induction xs with
  | nil => rfl
  | cons x xs ih =>
    rw [List.filterMap_cons, List.filter_cons, ← ih]
    by_cases e : p x = true
    · simp [e]
    · simp [e]
theorem psh_ok {α : Type u} {xs : List α} {x : α} (h : xs.length < 16777216) : psh xs x = some (xs ++ [x]) := if_pos h
theorem catG_ok {α : Type} {xs ys : List α} (h : xs.length + ys.length ≤ 16777216) : catG xs ys = some (xs ++ ys) := if_pos h
theorem mulG_ok {i j : Int} (h : (-(18446744073709551616) < i ∧ i < 18446744073709551616) ∨ (-(18446744073709551616) < j ∧ j < 18446744073709551616)) : mulG i j = some (i * j) := if_pos h
theorem divG_ok {i j : Int} (h : 0 < j ∧ j < 18446744073709551616) : divG i j = some (i / j) := if_pos h
theorem modG_ok {i j : Int} (h : 0 < j) : modG i j = some (i % j) := if_pos h
theorem powG_ok {i : Int} {n : Nat} (h : i.natAbs < 18446744073709551616) : powG i n = some (i ^ n) := if_pos h
theorem rngG_ok {j : Int} (h : -(4611686018427387904 : Int) ≤ j ∧ j < 4611686018427387904) : rngG j = some (rng 0 j.toNat) := if_pos h
theorem gx_nat {α : Type u} {xs : List α} {i : Int} (h0 : 0 ≤ i) : gx xs i = xs[i.toNat]? := if_pos h0
theorem gx_ok {α : Type u} {xs : List α} {i : Int} (h : -(xs.length : Int) ≤ i ∧ i < xs.length) : ∃ t ∈ xs, gx xs i = some t := by
  unfold gx
  by_cases h0 : 0 ≤ i
  · rw [if_pos h0]
    have hl : i.toNat < xs.length := by omega
    exact ⟨xs[i.toNat], List.getElem_mem hl, List.getElem?_eq_getElem hl⟩
  · rw [if_neg h0, if_pos h.1]
    have hl : (i + xs.length).toNat < xs.length := by omega
    exact ⟨xs[(i + xs.length).toNat], List.getElem_mem hl, List.getElem?_eq_getElem hl⟩
theorem rng_mem {lo : Int} {n : Nat} {x : Int} (h : x ∈ rng lo n) : lo ≤ x ∧ x < lo + n := by
  unfold rng at h
  obtain ⟨i, hi, rfl⟩ := List.mem_map.mp h
  have := List.mem_range.mp hi
  omega
/-- min, max of whole numbers -/
theorem fold_best (g : Int → Int → Bool) (le : Int → Int → Prop) (hr : ∀ a, le a a) (ht : ∀ a b c, le a b → le b c → le a c) (h1 : ∀ a y, g y a = true → le y a) (h2 : ∀ a y, g y a = false → le a y) : ∀ (ts : List Int) (t : Int), (ts.foldl (fun a y => if g y a = true then y else a) t) ∈ t :: ts ∧ ∀ x ∈ t :: ts, le (ts.foldl (fun a y => if g y a = true then y else a) t) x
  | [], t => ⟨List.mem_cons_self, fun x hx => by
      rcases List.mem_cons.mp hx with rfl | hx
      · exact hr _
      · cases hx⟩
  | y :: ys, t => by
    have ih := fold_best g le hr ht h1 h2 ys (if g y t = true then y else t)
    rw [List.foldl_cons]
    refine ⟨?_, fun x hx => ?_⟩
    · rcases List.mem_cons.mp ih.1 with e | e
      · rw [e]
        split
        · exact List.mem_cons_of_mem _ List.mem_cons_self
        · exact List.mem_cons_self
      · exact List.mem_cons_of_mem _ (List.mem_cons_of_mem _ e)
    · have q := ih.2 _ List.mem_cons_self
      rcases List.mem_cons.mp hx with rfl | hx
      · refine ht _ _ _ q ?_
        split
        · rename_i e; exact h1 _ _ e
        · exact hr _
      · rcases List.mem_cons.mp hx with rfl | hx
        · refine ht _ _ _ q ?_
          split
          · exact hr _
          · rename_i e; exact h2 _ _ (by simpa using e)
        · exact ih.2 x (List.mem_cons_of_mem _ hx)
theorem maxG_int {xs : List Int} (h : xs ≠ []) : ∃ r ∈ xs, maxG xs = some r ∧ ∀ x ∈ xs, x ≤ r := by
  cases xs with
  | nil => exact absurd rfl h
  | cons t ts =>
    have k := fold_best (fun a b => decide (b < a)) (fun a b => b ≤ a) (fun a => Int.le_refl a) (fun a b c h1 h2 => Int.le_trans h2 h1) (fun a y e => by have := of_decide_eq_true e; omega) (fun a y e => by have := of_decide_eq_false e; omega) ts t
    exact ⟨_, k.1, rfl, k.2⟩
theorem tot_forB {ι α : Type} {f : ι → α → Option ι} (I : Nat → ι → Prop) (K : Nat) : ∀ {xs : List α} {k : Nat} {s : ι}, I k s → k + xs.length = K → (∀ k s x, x ∈ xs → k < K → I k s → Tot (f s x) (I (k + 1))) → Tot (forM f xs s) (I K)
  | [], k, s, h, e, _ => ⟨s, rfl, by have : k = K := e; subst this; exact h⟩
  | x :: xs, k, s, h, e, hf => by
    simp only [List.length_cons] at e
    show Tot ((f s x).bind (forM f xs)) _
    refine tot_bind (hf k s x List.mem_cons_self (by omega) h) fun s' h' => ?_
    exact tot_forB I K (xs := xs) h' (by omega) fun k s y hy => hf k s y (List.mem_cons_of_mem _ hy)
/-- a loop that never leaves early -/
theorem tot_forL {ι α ρ : Type} {f : ι → α → Option (Lp ι ρ)} (I : Nat → ι → Prop) (K : Nat) : ∀ {xs : List α} {k : Nat} {s : ι}, I k s → k + xs.length = K → (∀ k s x, x ∈ xs → k < K → I k s → Tot (f s x) fun o => ∃ s', o = .nx s' ∧ I (k + 1) s') → Tot (forL f xs s) fun o => ∃ s', o = .inl s' ∧ I K s'
  | [], k, s, h, e, _ => ⟨.inl s, rfl, s, rfl, by have : k = K := e; subst this; exact h⟩
  | x :: xs, k, s, h, e, hf => by
    simp only [List.length_cons] at e
    show Tot ((f s x).bind _) _
    refine tot_bind (hf k s x List.mem_cons_self (by omega) h) fun o ho => ?_
    obtain ⟨s', rfl, h'⟩ := ho
    exact tot_forL I K (xs := xs) h' (by omega) fun k s y hy => hf k s y (List.mem_cons_of_mem _ hy)
section
open PySem L2
theorem sta0 {H : Hp} {a : Addr} : Sta ⟨H, H⟩ ⟨[], []⟩ [.v (.ref a)] [] [.ref a] H :=
  ⟨H, [], [], { tmp := .cons .v .nil, cel := .nil, slo := ⟨rfl, fun i s hs => by simp at hs⟩, nod := List.nodup_nil, fre := (fun a ha => nomatch ha), gro := Ex.refl H, new := fun a o h => .inl h, sub := Ex.refl H, frm := Ex.refl H }⟩
theorem out_true {B : Base} {cs : List (Addr × Cel)} {v : V} {H : Hp} (h : Out B (.val true) cs v H) : v = .bl true := Sta.bool h
end
end J
namespace Tu
def m_law_bag_b0 (s2 : ((List Int) × Int)) (x4 : Int) : Option ((List Int) × Int) :=
  ((if (decide (x4 < 0)) = true then ( some (3 - x4)) else ( some x4) : Option Int)).bind fun s9 => (some (((((s2.2 * 1000003) + s9) + 1) % (2305843009213693952 - 1)) : Int)).bind fun x11 => ((if (decide (1000000000000000000 ≤ s9)) = true then ((J.psh s2.1 (s9 - 1000000000000000000)).bind fun x14 => some x14) else ( some s2.1) : Option (List Int))).bind fun s12 => some (s12, x11)
def m_law_bag (a0 : List Int) : Option ((List Int) × (Int × Int)) :=
  (J.forM (m_law_bag_b0) a0 (([] : List Int), 5)).bind fun s15 => some (s15.1, (s15.2, 0))
def m_law_draw_t0 (s2 : (List Int)) : Option Bool :=
  (J.andM (decide (s2 ≠ ([] : List Int))) ((J.gx s2 0).bind fun x4 => some (decide (x4 = 0)))).bind fun x5 => some x5
def m_law_draw_w1 (s2 : (List Int)) : Option (List Int) :=
  (J.popG s2 0).bind fun x6 => some x6.2
def m_law_draw (a1 : Int) (a0_0 : (List Int)) (a0_1 : Int) (a0_2 : Int) : Option (Int × ((List Int) × Int)) :=
  (J.whileM (m_law_draw_t0) (m_law_draw_w1) 1000000 a0_0).bind fun s7 => if (decide (s7 ≠ ([] : List Int))) = true then ((J.gx s7 0).bind fun x8 => (J.modG x8 a1).bind fun x9 => (J.gx s7 0).bind fun x10 => (J.divG x10 a1).bind fun x11 => (J.stx s7 0 x11).bind fun x12 => some (x9, (x12, (a0_2 + 1)))) else ( (J.powG ((a0_2 + 1) + 11) 3).bind fun x13 => (J.mulG (a0_1 + 40961) x13).bind fun x14 => (some (((x14 + (7907 * (a0_2 + 1))) % (2305843009213693952 - 1)) : Int)).bind fun x15 => (J.powG x15 3).bind fun x16 => (J.modG ((x16 % (1000000000000000000 + 9)) / 64) a1).bind fun x17 => some (x17, (s7, (a0_2 + 1))))
def m_law_pages (a0_0 : (List Int)) (a0_1 : Int) (a0_2 : Int) : Option ((List Int) × ((List Int) × Int)) :=
  (m_law_draw 80 a0_0 a0_1 a0_2).bind fun x1 => (some (([0, 1, 2, 9, 10, 100, (1000000000 - 1), 1000000000, (11 + x1.1)] : List Int) : (List Int))).bind fun x2 => (m_law_draw 9 x1.2.1 a0_1 x1.2.2).bind fun x3 => (J.catG (J.slc x2 (some x3.1) none) (J.slc x2 none (some x3.1))).bind fun x4 => some (x4, (x3.2.1, x3.2.2))
def m_law_line_c0 (x6 : (Int × ((List Int) × Int))) (x7 : (Int × ((List Int) × Int))) (s10 : Unit) (x12 : Int) : Option (Option Int × Unit) :=
  (J.mulG (1 + x7.1) x12).bind fun x13 => some (some (x6.1 + x13), ())
def m_law_line_b1 (a0_1 : Int) (s4 : ((List Int) × (Int × ((List Int) × Int)))) (x15 : (Int × ((List Int) × Int))) (s19 : ((List Int) × (Int × (List Int)))) (x21 : Int) : Option ((List Int) × (Int × (List Int))) :=
  (m_law_draw s4.2.2.2 s19.1 a0_1 s19.2.1).bind fun x26 => (m_law_draw s4.2.2.2 x26.2.1 a0_1 x26.2.2).bind fun x27 => (J.modG x21 s4.2.2.2).bind fun x28 => (J.modG (x21 / 3) s4.2.2.2).bind fun x29 => (J.gx ([x26.1, x27.1, x28, x29] : List Int) x15.1).bind fun x30 => (m_law_draw 8 x27.2.1 a0_1 x27.2.2).bind fun x31 => ((if (decide (x31.1 = 0)) = true then ((m_law_draw ((s4.2.2.1).length : Int) x31.2.1 a0_1 x31.2.2).bind fun x34 => some (x34.2.1, (x34.2.2, x34.1))) else ( some (x31.2.1, (x31.2.2, x30))) : Option ((List Int) × (Int × Int)))).bind fun s32 => (J.gx s4.2.2.1 s32.2.2).bind fun x35 => (J.psh s19.2.2 x35).bind fun x36 => some (s32.1, (s32.2.1, x36))
def m_law_line (a1 : Int) (a0_0 : (List Int)) (a0_1 : Int) (a0_2 : Int) : Option ((List Int) × ((List Int) × Int)) :=
  (m_law_pages a0_0 a0_1 a0_2).bind fun x1 => (m_law_draw 9 x1.2.1 a0_1 x1.2.2).bind fun x2 => (m_law_draw 4 x2.2.1 a0_1 x2.2.2).bind fun x3 => ((if (decide (x3.1 = 3)) = true then ((m_law_draw 100000000 x3.2.1 a0_1 x3.2.2).bind fun x6 => (m_law_draw 1000000 x6.2.1 a0_1 x6.2.2).bind fun x7 => (m_law_draw 71 x7.2.1 a0_1 x7.2.2).bind fun x8 => (J.rngG (10 + x8.1)).bind fun x9 => (J.lcM (m_law_line_c0 x6 x7) x9 ()).bind fun x14 => some (x8.2.1, (x8.2.2, (x14.1, ((x14.1).length : Int))))) else ( some (x3.2.1, (x3.2.2, (x1.1, (1 + x2.1))))) : Option ((List Int) × (Int × ((List Int) × Int))))).bind fun s4 => (m_law_draw 4 s4.1 a0_1 s4.2.1).bind fun x15 => (m_law_draw (a1 + 1) x15.2.1 a0_1 x15.2.2).bind fun x17 => (J.rngG x17.1).bind fun x18 => (J.forM (m_law_line_b1 a0_1 s4 x15) x18 (x17.2.1, (x17.2.2, ([] : List Int)))).bind fun s37 => some (s37.2.2, (s37.1, s37.2.1))
def m_law_lot_b0 (a0_1 : Int) (x4 : Int) (s10 : ((List Int) × (Int × (List ((List Int) × Int))))) (x12 : Int) : Option ((List Int) × (Int × (List ((List Int) × Int)))) :=
  (m_law_draw 8 s10.1 a0_1 s10.2.1).bind fun x17 => (J.gx ([5, 9, 14, 14, 30, 30, 60, 200] : List Int) x17.1).bind fun x18 => (m_law_line x18 x17.2.1 a0_1 x17.2.2).bind fun x19 => (m_law_draw 4 x19.2.1 a0_1 x19.2.2).bind fun x20 => (J.gx ([3, 6, 12, 60] : List Int) x20.1).bind fun x21 => (m_law_draw x21 x20.2.1 a0_1 x20.2.2).bind fun x22 => ((if (decide (0 < x4)) = true then ((m_law_draw 2 x22.2.1 a0_1 x22.2.2).bind fun x25 => some (x25.2.1, (x25.2.2, (x4 + x25.1)))) else ( some (x22.2.1, (x22.2.2, (1 + x22.1)))) : Option ((List Int) × (Int × Int)))).bind fun s23 => (J.psh s10.2.2 (x19.1, s23.2.2)).bind fun x26 => some (s23.1, (s23.2.1, x26))
def m_law_lot (a0_0 : (List Int)) (a0_1 : Int) (a0_2 : Int) : Option ((List ((List Int) × Int)) × ((List Int) × Int)) :=
  (m_law_draw 10 a0_0 a0_1 a0_2).bind fun x2 => (m_law_draw 3 x2.2.1 a0_1 x2.2.2).bind fun x3 => (J.gx ([0, 2, (3 + x2.1)] : List Int) x3.1).bind fun x4 => (m_law_draw 7 x3.2.1 a0_1 x3.2.2).bind fun x5 => (m_law_draw 5 x5.2.1 a0_1 x5.2.2).bind fun x6 => (m_law_draw 2 x6.2.1 a0_1 x6.2.2).bind fun x7 => (J.gx ([x5.1, (2 + x6.1)] : List Int) x7.1).bind fun x8 => (J.rngG x8).bind fun x9 => (J.forM (m_law_lot_b0 a0_1 x4) x9 (x7.2.1, (x7.2.2, ([] : List ((List Int) × Int))))).bind fun s27 => some (s27.2.2, (s27.1, s27.2.1))
def m_law_many_c0 (s1 : Unit) (x3 : ((List Int) × Int)) : Option (Option Int × Unit) :=
   some (some x3.2, ())
def m_law_many (a1 : (List ((List Int) × Int))) (a0_0 : (List Int)) (a0_1 : Int) (a0_2 : Int) : Option (Int × ((List Int) × Int)) :=
  (J.lcM (m_law_many_c0) a1 ()).bind fun x4 => (m_law_draw 4 a0_0 a0_1 a0_2).bind fun x5 => (m_law_draw 64 x5.2.1 a0_1 x5.2.2).bind fun x6 => (m_law_draw 6 x6.2.1 a0_1 x6.2.2).bind fun x7 => (J.gx ([0, 0, 0, 1, x5.1, x6.1] : List Int) x7.1).bind fun x8 => some ((if ((J.maxDf x4.1 1) + x8) < 64 then ((J.maxDf x4.1 1) + x8) else 64), (x7.2.1, x7.2.2))
def m_law_size (a0_0 : (List Int)) (a0_1 : Int) (a0_2 : Int) : Option (Int × ((List Int) × Int)) :=
  (m_law_draw 9 a0_0 a0_1 a0_2).bind fun x1 => (m_law_draw 5 x1.2.1 a0_1 x1.2.2).bind fun x2 => (J.gx ([1, 1, 2, (1 + x1.1), 300] : List Int) x2.1).bind fun x3 => some (x3, (x2.2.1, x2.2.2))
def m_need_window (a0 : Int) (a1 : Int) : Option Unit :=
   if (decide (a0 < 1)) = true then ( none) else (  some ())
def m_Job_init (a1 : Int) (a2 : (List Int)) (a3 : Int) : Option (Int × ((List Int) × (Int × (Int × ((List (Int × Bool)) × ((Option Int) × (Int × Int))))))) :=
   some (a1, (a2, (a3, (0, (([] : List (Int × Bool)), (none, (0, 0)))))))
def m_Job_is_done (a0_0 : Int) (a0_1 : (List Int)) (a0_2 : Int) (a0_3 : Int) (a0_4 : (List (Int × Bool))) (a0_5 : (Option Int)) (a0_6_0 : Int) (a0_6_1 : Int) : Option Bool :=
   some (decide (a0_3 = ((a0_1).length : Int)))
def m_Plan_init_c0 (s1 : Unit) (x3 : (Int × ((List Int) × Int))) : Option (Option (Int × ((List Int) × (Int × (Int × ((List (Int × Bool)) × ((Option Int) × (Int × Int))))))) × Unit) :=
  (m_Job_init x3.1 x3.2.1 x3.2.2).bind fun x4 => some (some ((x4.1, (x4.2.1, (x4.2.2.1, (x4.2.2.2.1, (x4.2.2.2.2.1, (x4.2.2.2.2.2.1, (x4.2.2.2.2.2.2.1, x4.2.2.2.2.2.2.2))))))) : (Int × ((List Int) × (Int × (Int × ((List (Int × Bool)) × ((Option Int) × (Int × Int)))))))), ())
def m_Plan_init_c1 (x5 : (List (Int × ((List Int) × (Int × (Int × ((List (Int × Bool)) × ((Option Int) × (Int × Int))))))) × Unit)) (s8 : Unit) (x10 : Int) : Option (Option Int × Unit) :=
  (J.gxN x5.1 x10).bind fun x11 => (m_Job_is_done x11.1 x11.2.1 x11.2.2.1 x11.2.2.2.1 x11.2.2.2.2.1 x11.2.2.2.2.2.1 x11.2.2.2.2.2.2.1 x11.2.2.2.2.2.2.2).bind fun x12 => if (!x12) = true then  some (some x10, ()) else some (none, ())
def m_Plan_init (a1 : (List ((List Int) × Int))) (a2 : Int) (a3 : Int) : Option ((List (Int × ((List Int) × (Int × (Int × ((List (Int × Bool)) × ((Option Int) × (Int × Int)))))))) × (Int × (Int × ((List Int) × (Int × (List J.Hap)))))) :=
  (J.lcM (m_Plan_init_c0) (J.enu 0 a1) ()).bind fun x5 => (J.lcM (m_Plan_init_c1 x5) (J.rng 0 (x5.1).length) ()).bind fun x13 => some (x5.1, (a2, (a3, (x13.1, (0, ([] : List J.Hap))))))
def m_Job_is_on (a0_0 : Int) (a0_1 : (List Int)) (a0_2 : Int) (a0_3 : Int) (a0_4 : (List (Int × Bool))) (a0_5 : (Option Int)) (a0_6_0 : Int) (a0_6_1 : Int) : Option Bool :=
   some (!(a0_5).isNone)
def m_Plan_on_now_c0 (a0_0 : (List (Int × ((List Int) × (Int × (Int × ((List (Int × Bool)) × ((Option Int) × (Int × Int))))))))) (s2 : Unit) (x4 : Int) : Option (Option Int × Unit) :=
  (J.gxN a0_0 x4).bind fun x5 => (m_Job_is_on x5.1 x5.2.1 x5.2.2.1 x5.2.2.2.1 x5.2.2.2.2.1 x5.2.2.2.2.2.1 x5.2.2.2.2.2.2.1 x5.2.2.2.2.2.2.2).bind fun x6 => if x6 = true then  some (some x4, ()) else some (none, ())
def m_Plan_on_now (a0_0 : (List (Int × ((List Int) × (Int × (Int × ((List (Int × Bool)) × ((Option Int) × (Int × Int))))))))) (a0_1 : Int) (a0_2 : Int) (a0_3 : (List Int)) (a0_4 : Int) (a0_5 : (List J.Hap)) : Option (List Int) :=
  (J.lcM (m_Plan_on_now_c0 a0_0) (J.rng 0 (a0_0).length) ()).bind fun x7 => some x7.1
def m_Job_working_pages_c0 (s1 : Unit) (x3 : Int) : Option (Option (Int × Bool) × Unit) :=
   some (some (x3, true), ())
def m_Job_working_pages (a0_0 : Int) (a0_1 : (List Int)) (a0_2 : Int) (a0_3 : Int) (a0_4 : (List (Int × Bool))) (a0_5 : (Option Int)) (a0_6_0 : Int) (a0_6_1 : Int) : Option (List (Int × Bool)) :=
  (J.lcM (m_Job_working_pages_c0) (J.slc a0_1 (some (if (a0_3 - a0_2) > 0 then (a0_3 - a0_2) else 0)) (some a0_3)) ()).bind fun x4 => some (J.dOf (x4.1 : List (Int × Bool)))
def m_Plan_let_on_c0 (s1 : ((List (Int × ((List Int) × (Int × (Int × ((List (Int × Bool)) × ((Option Int) × (Int × Int)))))))) × ((List Int) × (List J.Hap)))) (s17 : Unit) (x19 : Int) : Option (Option Int × Unit) :=
  (J.gxN s1.1 x19).bind fun x21 => (m_Job_working_pages x21.1 x21.2.1 x21.2.2.1 x21.2.2.2.1 x21.2.2.2.2.1 x21.2.2.2.2.2.1 x21.2.2.2.2.2.2.1 x21.2.2.2.2.2.2.2).bind fun x22 => some (some ((x22).length : Int), ())
def m_Plan_let_on_t1 (s1 : ((List (Int × ((List Int) × (Int × (Int × ((List (Int × Bool)) × ((Option Int) × (Int × Int)))))))) × ((List Int) × (List J.Hap)))) : Option Bool :=
   some (decide (s1.2.1 ≠ ([] : List Int)))
def m_Plan_let_on_w2 (a0_1 : Int) (a0_2 : Int) (a0_4 : Int) (s1 : ((List (Int × ((List Int) × (Int × (Int × ((List (Int × Bool)) × ((Option Int) × (Int × Int)))))))) × ((List Int) × (List J.Hap)))) : Option (J.Lp ((List (Int × ((List Int) × (Int × (Int × ((List (Int × Bool)) × ((Option Int) × (Int × Int)))))))) × ((List Int) × (List J.Hap))) ((List (Int × ((List Int) × (Int × (Int × ((List (Int × Bool)) × ((Option Int) × (Int × Int)))))))) × ((List Int) × (Int × (List J.Hap))))) :=
  (J.gx s1.2.1 0).bind fun x5 => (m_Plan_on_now s1.1 a0_1 a0_2 s1.2.1 (a0_4 + 1) s1.2.2).bind fun x6 => if (decide (x6 ≠ ([] : List Int))) = true then ((J.catG x6 ([x5] : List Int)).bind fun x16 => (J.lcM (m_Plan_let_on_c0 s1) x16 ()).bind fun x23 => if (decide ((a0_1 - 1) < (x23.1).sum)) = true then ( some (.rt (s1.1, (s1.2.1, ((a0_4 + 1), s1.2.2))))) else ( (J.popG s1.2.1 0).bind fun x25 => (J.gxN s1.1 x5).bind fun x27 => (J.gxN (List.set s1.1 (x5).toNat ((x27.1, (x27.2.1, (x27.2.2.1, (x27.2.2.2.1, (x27.2.2.2.2.1, ((some (a0_4 + 1)), (x27.2.2.2.2.2.2.1, x27.2.2.2.2.2.2.2))))))) : (Int × ((List Int) × (Int × (Int × ((List (Int × Bool)) × ((Option Int) × (Int × Int))))))))) x5).bind fun x30 => (J.psh s1.2.2 (J.Hap.two ((("on" : PySem.Str), x30.1) : (PySem.Str × Int)).1 ((("on" : PySem.Str), x30.1) : (PySem.Str × Int)).2)).bind fun x31 => some (.nx ((List.set s1.1 (x5).toNat ((x27.1, (x27.2.1, (x27.2.2.1, (x27.2.2.2.1, (x27.2.2.2.2.1, ((some (a0_4 + 1)), (x27.2.2.2.2.2.2.1, x27.2.2.2.2.2.2.2))))))) : (Int × ((List Int) × (Int × (Int × ((List (Int × Bool)) × ((Option Int) × (Int × Int))))))))), (x25.2, x31))))) else ( (J.popG s1.2.1 0).bind fun x9 => (J.gxN s1.1 x5).bind fun x11 => (J.gxN (List.set s1.1 (x5).toNat ((x11.1, (x11.2.1, (x11.2.2.1, (x11.2.2.2.1, (x11.2.2.2.2.1, ((some (a0_4 + 1)), (x11.2.2.2.2.2.2.1, x11.2.2.2.2.2.2.2))))))) : (Int × ((List Int) × (Int × (Int × ((List (Int × Bool)) × ((Option Int) × (Int × Int))))))))) x5).bind fun x14 => (J.psh s1.2.2 (J.Hap.two ((("on" : PySem.Str), x14.1) : (PySem.Str × Int)).1 ((("on" : PySem.Str), x14.1) : (PySem.Str × Int)).2)).bind fun x15 => some (.nx ((List.set s1.1 (x5).toNat ((x11.1, (x11.2.1, (x11.2.2.1, (x11.2.2.2.1, (x11.2.2.2.2.1, ((some (a0_4 + 1)), (x11.2.2.2.2.2.2.1, x11.2.2.2.2.2.2.2))))))) : (Int × ((List Int) × (Int × (Int × ((List (Int × Bool)) × ((Option Int) × (Int × Int))))))))), (x9.2, x15))))
def m_Plan_let_on (a0_0 : (List (Int × ((List Int) × (Int × (Int × ((List (Int × Bool)) × ((Option Int) × (Int × Int))))))))) (a0_1 : Int) (a0_2 : Int) (a0_3 : (List Int)) (a0_4 : Int) (a0_5 : (List J.Hap)) : Option ((List (Int × ((List Int) × (Int × (Int × ((List (Int × Bool)) × ((Option Int) × (Int × Int)))))))) × ((List Int) × (Int × (List J.Hap)))) :=
   (J.whileL (m_Plan_let_on_t1) (m_Plan_let_on_w2 a0_1 a0_2 a0_4) 1000000 (a0_0, (a0_3, a0_5))).bind fun o33 => Sum.elim (fun s32 =>  some (s32.1, (s32.2.1, ((a0_4 + 1), s32.2.2)))) (fun r => some r) o33
def m_Job_ask_c0 (x4 : (List (Int × Bool))) (s7 : Unit) (x9 : Int) : Option (Option (Int × Bool) × Unit) :=
   if (J.dhas x4 x9) = true then  some (some (x9, true), ()) else some (none, ())
def m_Job_ask (a0_0 : Int) (a0_1 : (List Int)) (a0_2 : Int) (a0_3 : Int) (a0_4 : (List (Int × Bool))) (a0_5 : (Option Int)) (a0_6_0 : Int) (a0_6_1 : Int) : Option ((Int × PySem.Str) × (Int × (List (Int × Bool)))) :=
  (J.gx a0_1 a0_3).bind fun x1 => (m_Job_working_pages a0_0 a0_1 a0_2 a0_3 a0_4 a0_5 a0_6_0 a0_6_1).bind fun x2 => (m_Job_working_pages a0_0 a0_1 a0_2 (a0_3 + 1) a0_4 a0_5 a0_6_0 a0_6_1).bind fun x4 => (J.lcM (m_Job_ask_c0 x4) (a0_4.map (·.1)) ()).bind fun x10 => if (J.dhas (J.dOf (x10.1 : List (Int × Bool))) x1) = true then ( some ((x1, ("hit" : PySem.Str)), ((a0_3 + 1), (J.dOf (x10.1 : List (Int × Bool)))))) else ( (J.ifM (J.dhas x2 x1) ( some ("back" : PySem.Str)) ( some ("own" : PySem.Str))).bind fun x12 => some ((x1, x12), ((a0_3 + 1), (J.dOf (x10.1 : List (Int × Bool))))))
def m_Job_leave (a0_0 : Int) (a0_1 : (List Int)) (a0_2 : Int) (a0_3 : Int) (a0_4 : (List (Int × Bool))) (a0_5 : (Option Int)) (a0_6_0 : Int) (a0_6_1 : Int) : Option ((List (Int × Bool)) × (Option Int)) :=
   some (([] : List (Int × Bool)), none)
def m_Plan_make_room_c0 (s1 : ((List (Int × ((List Int) × (Int × (Int × ((List (Int × Bool)) × ((Option Int) × (Int × Int)))))))) × ((List Int) × (List J.Hap)))) (s4 : Unit) (x6 : Int) : Option (Option Int × Unit) :=
  (J.gxN s1.1 x6).bind fun x7 => some (some ((x7.2.2.2.2.1).length : Int), ())
def m_Plan_make_room_c1 (a1 : Int) (s1 : ((List (Int × ((List Int) × (Int × (Int × ((List (Int × Bool)) × ((Option Int) × (Int × Int)))))))) × ((List Int) × (List J.Hap)))) (s11 : Unit) (x13 : Int) : Option (Option (Int × Int) × Unit) :=
  (J.gxN s1.1 x13).bind fun x15 => (J.gxN s1.1 a1).bind fun x17 => if (decide (x15.1 ≠ x17.1)) = true then (J.gxN s1.1 x13).bind fun x19 => (x19.2.2.2.2.2.1).bind fun x20 => (J.gxN s1.1 x13).bind fun x22 => some (some (x20, x22.1), ()) else some (none, ())
def m_Plan_make_room_t2 (a0_1 : Int) (s1 : ((List (Int × ((List Int) × (Int × (Int × ((List (Int × Bool)) × ((Option Int) × (Int × Int)))))))) × ((List Int) × (List J.Hap)))) : Option Bool :=
  (J.lcM (m_Plan_make_room_c0 s1) (J.rng 0 (s1.1).length) ()).bind fun x9 => some (decide (a0_1 ≤ (x9.1).sum))
def m_Plan_make_room_w3 (a1 : Int) (a0_1 : Int) (a0_2 : Int) (a0_4 : Int) (s1 : ((List (Int × ((List Int) × (Int × (Int × ((List (Int × Bool)) × ((Option Int) × (Int × Int)))))))) × ((List Int) × (List J.Hap)))) : Option ((List (Int × ((List Int) × (Int × (Int × ((List (Int × Bool)) × ((Option Int) × (Int × Int)))))))) × ((List Int) × (List J.Hap))) :=
  (m_Plan_on_now s1.1 a0_1 a0_2 s1.2.1 a0_4 s1.2.2).bind fun x10 => (J.lcM (m_Plan_make_room_c1 a1 s1) x10 ()).bind fun x23 => (J.maxG x23.1).bind fun x25 => (J.gx (J.rng 0 (s1.1).length) x25.2).bind fun x26 => (J.gxN s1.1 x26).bind fun x28 => (m_Job_leave x28.1 x28.2.1 x28.2.2.1 x28.2.2.2.1 x28.2.2.2.2.1 x28.2.2.2.2.2.1 x28.2.2.2.2.2.2.1 x28.2.2.2.2.2.2.2).bind fun x29 => (J.psh s1.2.1 x26).bind fun x31 => (J.gxN (List.set s1.1 (x26).toNat ((x28.1, (x28.2.1, (x28.2.2.1, (x28.2.2.2.1, (x29.1, (x29.2, (x28.2.2.2.2.2.2.1, x28.2.2.2.2.2.2.2))))))) : (Int × ((List Int) × (Int × (Int × ((List (Int × Bool)) × ((Option Int) × (Int × Int))))))))) x26).bind fun x34 => (J.psh s1.2.2 (J.Hap.two ((("off" : PySem.Str), x34.1) : (PySem.Str × Int)).1 ((("off" : PySem.Str), x34.1) : (PySem.Str × Int)).2)).bind fun x35 => some ((List.set s1.1 (x26).toNat ((x28.1, (x28.2.1, (x28.2.2.1, (x28.2.2.2.1, (x29.1, (x29.2, (x28.2.2.2.2.2.2.1, x28.2.2.2.2.2.2.2))))))) : (Int × ((List Int) × (Int × (Int × ((List (Int × Bool)) × ((Option Int) × (Int × Int))))))))), (x31, x35))
def m_Plan_make_room (a1 : Int) (a0_0 : (List (Int × ((List Int) × (Int × (Int × ((List (Int × Bool)) × ((Option Int) × (Int × Int))))))))) (a0_1 : Int) (a0_2 : Int) (a0_3 : (List Int)) (a0_4 : Int) (a0_5 : (List J.Hap)) : Option ((List (Int × ((List Int) × (Int × (Int × ((List (Int × Bool)) × ((Option Int) × (Int × Int)))))))) × ((List Int) × (List J.Hap))) :=
  (J.whileM (m_Plan_make_room_t2 a0_1) (m_Plan_make_room_w3 a1 a0_1 a0_2 a0_4) 1000000 (a0_0, (a0_3, a0_5))).bind fun s36 => some (s36.1, (s36.2.1, s36.2.2))
def m_Plan_request (a1 : Int) (a0_0 : (List (Int × ((List Int) × (Int × (Int × ((List (Int × Bool)) × ((Option Int) × (Int × Int))))))))) (a0_1 : Int) (a0_2 : Int) (a0_3 : (List Int)) (a0_4 : Int) (a0_5 : (List J.Hap)) : Option ((List (Int × ((List Int) × (Int × (Int × ((List (Int × Bool)) × ((Option Int) × (Int × Int)))))))) × ((List Int) × (List J.Hap))) :=
  (J.gxN a0_0 a1).bind fun x2 => (m_Job_ask x2.1 x2.2.1 x2.2.2.1 x2.2.2.2.1 x2.2.2.2.2.1 x2.2.2.2.2.2.1 x2.2.2.2.2.2.2.1 x2.2.2.2.2.2.2.2).bind fun x3 => ((if (decide (x3.1.2 ≠ ("hit" : PySem.Str))) = true then ((m_Plan_make_room a1 (List.set a0_0 (a1).toNat ((x2.1, (x2.2.1, (x2.2.2.1, (x3.2.1, (x3.2.2, (x2.2.2.2.2.2.1, (x2.2.2.2.2.2.2.1, x2.2.2.2.2.2.2.2))))))) : (Int × ((List Int) × (Int × (Int × ((List (Int × Bool)) × ((Option Int) × (Int × Int))))))))) a0_1 a0_2 a0_3 a0_4 a0_5).bind fun x6 => (J.gxN x6.1 a1).bind fun x8 => (J.dputG x8.2.2.2.2.1 x3.1.1 true).bind fun x10 => (J.gxN (List.set x6.1 (a1).toNat ((x8.1, (x8.2.1, (x8.2.2.1, (x8.2.2.2.1, (x10, (x8.2.2.2.2.2.1, (x8.2.2.2.2.2.2.1, x8.2.2.2.2.2.2.2))))))) : (Int × ((List Int) × (Int × (Int × ((List (Int × Bool)) × ((Option Int) × (Int × Int))))))))) a1).bind fun x12 => (J.okW x3.1.2 "own" "back").bind fun x14 => some ((List.set (List.set x6.1 (a1).toNat ((x8.1, (x8.2.1, (x8.2.2.1, (x8.2.2.2.1, (x10, (x8.2.2.2.2.2.1, (x8.2.2.2.2.2.2.1, x8.2.2.2.2.2.2.2))))))) : (Int × ((List Int) × (Int × (Int × ((List (Int × Bool)) × ((Option Int) × (Int × Int))))))))) (a1).toNat ((x12.1, (x12.2.1, (x12.2.2.1, (x12.2.2.2.1, (x12.2.2.2.2.1, (x12.2.2.2.2.2.1, ((if x3.1.2 = ("own" : PySem.Str) then x12.2.2.2.2.2.2.1 + 1 else x12.2.2.2.2.2.2.1), (if x3.1.2 = ("own" : PySem.Str) then x12.2.2.2.2.2.2.2 else x12.2.2.2.2.2.2.2 + 1)))))))) : (Int × ((List Int) × (Int × (Int × ((List (Int × Bool)) × ((Option Int) × (Int × Int))))))))), (x6.2.1, x6.2.2))) else ( some ((List.set a0_0 (a1).toNat ((x2.1, (x2.2.1, (x2.2.2.1, (x3.2.1, (x3.2.2, (x2.2.2.2.2.2.1, (x2.2.2.2.2.2.2.1, x2.2.2.2.2.2.2.2))))))) : (Int × ((List Int) × (Int × (Int × ((List (Int × Bool)) × ((Option Int) × (Int × Int))))))))), (a0_3, a0_5))) : Option ((List (Int × ((List Int) × (Int × (Int × ((List (Int × Bool)) × ((Option Int) × (Int × Int)))))))) × ((List Int) × (List J.Hap))))).bind fun s4 => (J.gxN s4.1 a1).bind fun x17 => (J.psh s4.2.2 (J.Hap.three ((PySem.W.T3.mk x3.1.2 x17.1 x3.1.1) : (PySem.W.T3 PySem.Str Int Int)).a ((PySem.W.T3.mk x3.1.2 x17.1 x3.1.1) : (PySem.W.T3 PySem.Str Int Int)).b ((PySem.W.T3.mk x3.1.2 x17.1 x3.1.1) : (PySem.W.T3 PySem.Str Int Int)).c)).bind fun x18 => (J.gxN s4.1 a1).bind fun x20 => (m_Job_is_done x20.1 x20.2.1 x20.2.2.1 x20.2.2.2.1 x20.2.2.2.2.1 x20.2.2.2.2.2.1 x20.2.2.2.2.2.2.1 x20.2.2.2.2.2.2.2).bind fun x21 => ((if x21 = true then ((J.gxN s4.1 a1).bind fun x25 => (m_Job_leave x25.1 x25.2.1 x25.2.2.1 x25.2.2.2.1 x25.2.2.2.2.1 x25.2.2.2.2.2.1 x25.2.2.2.2.2.2.1 x25.2.2.2.2.2.2.2).bind fun x26 => (J.gxN (List.set s4.1 (a1).toNat ((x25.1, (x25.2.1, (x25.2.2.1, (x25.2.2.2.1, (x26.1, (x26.2, (x25.2.2.2.2.2.2.1, x25.2.2.2.2.2.2.2))))))) : (Int × ((List Int) × (Int × (Int × ((List (Int × Bool)) × ((Option Int) × (Int × Int))))))))) a1).bind fun x29 => (J.psh x18 (J.Hap.two ((("done" : PySem.Str), x29.1) : (PySem.Str × Int)).1 ((("done" : PySem.Str), x29.1) : (PySem.Str × Int)).2)).bind fun x30 => some ((List.set s4.1 (a1).toNat ((x25.1, (x25.2.1, (x25.2.2.1, (x25.2.2.2.1, (x26.1, (x26.2, (x25.2.2.2.2.2.2.1, x25.2.2.2.2.2.2.2))))))) : (Int × ((List Int) × (Int × (Int × ((List (Int × Bool)) × ((Option Int) × (Int × Int))))))))), x30)) else ( some (s4.1, x18)) : Option ((List (Int × ((List Int) × (Int × (Int × ((List (Int × Bool)) × ((Option Int) × (Int × Int)))))))) × (List J.Hap)))).bind fun s22 => some (s22.1, (s4.2.1, s22.2))
def m_Plan_take_turn_t0 (a1 : Int) (a0_2 : Int) (s1 : ((List (Int × ((List Int) × (Int × (Int × ((List (Int × Bool)) × ((Option Int) × (Int × Int)))))))) × ((List Int) × ((List J.Hap) × Int)))) : Option Bool :=
  (J.andM (decide (s1.2.2.2 < a0_2)) ((J.gxN s1.1 a1).bind fun x4 => (m_Job_is_on x4.1 x4.2.1 x4.2.2.1 x4.2.2.2.1 x4.2.2.2.2.1 x4.2.2.2.2.2.1 x4.2.2.2.2.2.2.1 x4.2.2.2.2.2.2.2).bind fun x5 => some x5)).bind fun x6 => some x6
def m_Plan_take_turn_w1 (a1 : Int) (a0_1 : Int) (a0_2 : Int) (a0_4 : Int) (s1 : ((List (Int × ((List Int) × (Int × (Int × ((List (Int × Bool)) × ((Option Int) × (Int × Int)))))))) × ((List Int) × ((List J.Hap) × Int)))) : Option ((List (Int × ((List Int) × (Int × (Int × ((List (Int × Bool)) × ((Option Int) × (Int × Int)))))))) × ((List Int) × ((List J.Hap) × Int))) :=
  (m_Plan_request a1 s1.1 a0_1 a0_2 s1.2.1 a0_4 s1.2.2.1).bind fun x7 => some (x7.1, (x7.2.1, (x7.2.2, (s1.2.2.2 + 1))))
def m_Plan_take_turn (a1 : Int) (a0_0 : (List (Int × ((List Int) × (Int × (Int × ((List (Int × Bool)) × ((Option Int) × (Int × Int))))))))) (a0_1 : Int) (a0_2 : Int) (a0_3 : (List Int)) (a0_4 : Int) (a0_5 : (List J.Hap)) : Option ((List (Int × ((List Int) × (Int × (Int × ((List (Int × Bool)) × ((Option Int) × (Int × Int)))))))) × ((List Int) × (List J.Hap))) :=
  (J.whileM (m_Plan_take_turn_t0 a1 a0_2) (m_Plan_take_turn_w1 a1 a0_1 a0_2 a0_4) 1000000 (a0_0, (a0_3, (a0_5, 0)))).bind fun s8 => some (s8.1, (s8.2.1, s8.2.2.1))
def m_Plan_go_b0 (a0_1 : Int) (a0_2 : Int) (s2 : ((List (Int × ((List Int) × (Int × (Int × ((List (Int × Bool)) × ((Option Int) × (Int × Int)))))))) × ((List Int) × (Int × (List J.Hap))))) (s6 : ((List (Int × ((List Int) × (Int × (Int × ((List (Int × Bool)) × ((Option Int) × (Int × Int)))))))) × ((List Int) × (List J.Hap)))) (x8 : Int) : Option ((List (Int × ((List Int) × (Int × (Int × ((List (Int × Bool)) × ((Option Int) × (Int × Int)))))))) × ((List Int) × (List J.Hap))) :=
  (m_Plan_take_turn x8 s6.1 a0_1 a0_2 s6.2.1 s2.2.2.1 s6.2.2).bind fun x13 => some (x13.1, (x13.2.1, x13.2.2))
def m_Plan_go_t1 (a0_1 : Int) (a0_2 : Int) (s2 : ((List (Int × ((List Int) × (Int × (Int × ((List (Int × Bool)) × ((Option Int) × (Int × Int)))))))) × ((List Int) × (Int × (List J.Hap))))) : Option Bool :=
  (m_Plan_on_now s2.1 a0_1 a0_2 s2.2.1 s2.2.2.1 s2.2.2.2).bind fun x4 => some (decide (x4 ≠ ([] : List Int)))
def m_Plan_go_w2 (a0_1 : Int) (a0_2 : Int) (s2 : ((List (Int × ((List Int) × (Int × (Int × ((List (Int × Bool)) × ((Option Int) × (Int × Int)))))))) × ((List Int) × (Int × (List J.Hap))))) : Option ((List (Int × ((List Int) × (Int × (Int × ((List (Int × Bool)) × ((Option Int) × (Int × Int)))))))) × ((List Int) × (Int × (List J.Hap)))) :=
  (m_Plan_on_now s2.1 a0_1 a0_2 s2.2.1 s2.2.2.1 s2.2.2.2).bind fun x5 => (J.forM (m_Plan_go_b0 a0_1 a0_2 s2) x5 (s2.1, (s2.2.1, s2.2.2.2))).bind fun s14 => (m_Plan_let_on s14.1 a0_1 a0_2 s14.2.1 s2.2.2.1 s14.2.2).bind fun x15 => some (x15.1, (x15.2.1, (x15.2.2.1, x15.2.2.2)))
def m_Plan_go (a0_0 : (List (Int × ((List Int) × (Int × (Int × ((List (Int × Bool)) × ((Option Int) × (Int × Int))))))))) (a0_1 : Int) (a0_2 : Int) (a0_3 : (List Int)) (a0_4 : Int) (a0_5 : (List J.Hap)) : Option ((List (Int × ((List Int) × (Int × (Int × ((List (Int × Bool)) × ((Option Int) × (Int × Int)))))))) × ((List Int) × (Int × (List J.Hap)))) :=
  (m_Plan_let_on a0_0 a0_1 a0_2 a0_3 a0_4 a0_5).bind fun x1 => (J.whileM (m_Plan_go_t1 a0_1 a0_2) (m_Plan_go_w2 a0_1 a0_2) 1000000 (x1.1, (x1.2.1, (x1.2.2.1, x1.2.2.2)))).bind fun s16 => some (s16.1, (s16.2.1, (s16.2.2.1, s16.2.2.2)))
def m_played_b0 (s1 : Unit) (x3 : (Int × ((List Int) × Int))) : Option Unit :=
  (m_need_window x3.2.2 x3.1).bind fun x8 => some ()
def m_played_c1 (s10 : Unit) (x12 : ((List Int) × Int)) : Option (Option Int × Unit) :=
   some (some x12.2, ())
def m_played (a0 : (List ((List Int) × Int))) (a1 : Int) (a2 : Int) : Option ((List (Int × ((List Int) × (Int × (Int × ((List (Int × Bool)) × ((Option Int) × (Int × Int)))))))) × (Int × (Int × ((List Int) × (Int × (List J.Hap)))))) :=
  (J.forM (m_played_b0) (J.enu 0 a0) ()).bind fun s9 => (J.lcM (m_played_c1) a0 ()).bind fun x13 => if (decide (a1 < (J.maxDf x13.1 1))) = true then ( none) else (  if (decide (a2 < 1)) = true then ( none) else ( (m_Plan_init a0 a1 a2).bind fun x14 => (m_Plan_go x14.1 x14.2.1 x14.2.2.1 x14.2.2.2.1 x14.2.2.2.2.1 x14.2.2.2.2.2).bind fun x17 => some (x17.1, (x14.2.1, (x14.2.2.1, (x17.2.1, (x17.2.2.1, x17.2.2.2)))))))
def m_job_faults_c0 (x1 : ((List (Int × ((List Int) × (Int × (Int × ((List (Int × Bool)) × ((Option Int) × (Int × Int)))))))) × (Int × (Int × ((List Int) × (Int × (List J.Hap))))))) (s4 : Unit) (x6 : Int) : Option (Option (Int × Int) × Unit) :=
  (J.gx x1.1 x6).bind fun x10 => some (some (x10.2.2.2.2.2.2.1, x10.2.2.2.2.2.2.2), ())
def m_job_faults (a0 : (List ((List Int) × Int))) (a1 : Int) (a2 : Int) : Option (List (Int × Int)) :=
  (m_played a0 a1 a2).bind fun x1 => (J.lcM (m_job_faults_c0 x1) (J.rng 0 (x1.1).length) ()).bind fun x12 => some x12.1
def m_story (a0 : (List ((List Int) × Int))) (a1 : Int) (a2 : Int) : Option (List J.Hap) :=
  (m_played a0 a1 a2).bind fun x1 => some x1.2.2.2.2.2
end Tu
namespace J
open PySem
structure OkD (n dp : Nat) (d : PyData) : Prop where
  sh : d.showable = true
  nd : d.hasDict = false
  lf : d.leavesShort 30 = true
  dp : d.depth ≤ dp
  bk : d.bulk ≤ n
theorem OkD.mono {n m k l : Nat} {d : PyData} (h : OkD n k d) (e : n ≤ m) (f : k ≤ l) : OkD m l d := ⟨h.sh, h.nd, h.lf, Nat.le_trans h.dp f, Nat.le_trans h.bk e⟩
end J
namespace J
theorem setG_ok {xs : List Int} (h : xs.length ≤ 4000) : setG xs = some (sset xs) := if_pos h
theorem insS_len (x : Int) : ∀ l : List Int, (insS x l).length ≤ l.length + 1
  | [] => Nat.le_refl _
  | y :: ys => by
    unfold insS
    split
    · simp
    · split
      · simp
      · have := insS_len x ys
        simp only [List.length_cons]
        omega
theorem sset_len : ∀ l : List Int, (sset l).length ≤ l.length
  | [] => Nat.le_refl _
  | x :: l => by
    have h1 := insS_len x (sset l)
    have h2 := sset_len l
    show (insS x (sset l)).length ≤ _
    rw [List.length_cons]
    omega
theorem keys_iff {β : Type} {m : List (Int × β)} {q : Int} : q ∈ m.map (·.1) ↔ (dget m q).isSome = true := by
  unfold dget
  rw [Option.isSome_map, List.find?_isSome, List.mem_map]
  constructor
  · rintro ⟨x, h1, h2⟩; exact ⟨x, h1, decide_eq_true h2⟩
  · rintro ⟨x, h1, h2⟩; exact ⟨x, h1, of_decide_eq_true h2⟩
end J
namespace J
open PySem
def pg (xs : List Int) (k : Nat) : Int := xs.getD k 0
theorem pg_at {xs : List Int} {k : Nat} (h : k < xs.length) : xs[k]? = some (pg xs k) := by
  unfold pg
  rw [List.getD_eq_getElem?_getD, List.getElem?_eq_getElem h]
  rfl
theorem take_rev {xs : List Int} {k : Nat} (h : k < xs.length) : (xs.take (k + 1)).reverse = pg xs k :: (xs.take k).reverse := by
  rw [List.take_succ, pg_at h, List.reverse_append]
  rfl
/-- the requests of the window behind k of them -/
def wn (w : Nat) (xs : List Int) (k : Nat) : List Int := (xs.take k).reverse.take w
def bh (w : Nat) (xs : List Int) (k : Nat) : List Int := sset (wn w xs k)
theorem bh_mem {w : Nat} {xs : List Int} {k : Nat} {p : Int} : p ∈ bh w xs k ↔ p ∈ wn w xs k := sset_mem
theorem bh_nd {w : Nat} {xs : List Int} {k : Nat} : (bh w xs k).Nodup := inc_nodup (sset_inc _)
theorem slc_mid {xs : List Int} {lo hi : Nat} (h1 : lo ≤ hi) (h2 : hi ≤ xs.length) : slc xs (some (lo : Int)) (some (hi : Int)) = (xs.take hi).drop lo := by
  have e1 : sx xs.length xs.length (some (hi : Int)) = hi := by
    show (if (hi : Int) < 0 then ((hi : Int) + (xs.length : Int)).toNat else min (hi : Int).toNat xs.length) = _
    rw [if_neg (by omega), Int.toNat_natCast]
    omega
  have e2 : sx xs.length 0 (some (lo : Int)) = lo := by
    show (if (lo : Int) < 0 then ((lo : Int) + (xs.length : Int)).toNat else min (lo : Int).toNat xs.length) = _
    rw [if_neg (by omega), Int.toNat_natCast]
    omega
  unfold slc
  rw [e1, e2]
  exact (List.drop_take (i := lo) (j := hi)).symm
theorem wn_slc {w : Nat} {xs : List Int} {k : Nat} (h : k ≤ xs.length) : (wn w xs k).reverse = (xs.take k).drop (k - w) := by
  unfold wn
  rw [List.take_reverse, List.reverse_reverse, List.length_take, Nat.min_eq_left h]
/-- what the program cuts, as a set -/
theorem bh_cut {w : Nat} {xs : List Int} {k : Nat} (h : k < xs.length) (hw : w ≤ 4000) : setG (slc xs (some (if (((k : Int) + 1) - (w : Int)) > 0 then (((k : Int) + 1) - (w : Int)) else 0)) (some ((k : Int) + 1))) = some (bh w xs (k + 1)) := by
  have e : (if (((k : Int) + 1) - (w : Int)) > 0 then (((k : Int) + 1) - (w : Int)) else 0) = ((k + 1 - w : Nat) : Int) := by
    split <;> omega
  have e2 : ((k : Int) + 1) = ((k + 1 : Nat) : Int) := by omega
  rw [e, e2, slc_mid (by omega) (by omega), ← wn_slc (by omega), setG_ok]
  · refine congrArg some (inc_ext (sset_inc _) (sset_inc _) fun q => ?_)
    rw [sset_mem, List.mem_reverse]
    exact bh_mem.symm
  · rw [List.length_reverse]
    unfold wn
    rw [List.length_take]
    omega
theorem filter_one {α : Type} [DecidableEq α] {P : α → Bool} {e : α} : ∀ {xs : List α}, xs.Nodup → (∀ x ∈ xs, P x = true → x = e) → xs.filter P = if e ∈ xs ∧ P e = true then [e] else []
  | [], _, _ => by simp
  | x :: xs, hn, h => by
    obtain ⟨n1, n2⟩ := List.nodup_cons.mp hn
    have ih := filter_one n2 fun y hy => h y (List.mem_cons_of_mem _ hy)
    by_cases c : P x = true
    · have ex := h x List.mem_cons_self c
      subst ex
      rw [List.filter_cons_of_pos c, ih, if_neg fun z => n1 z.1, if_pos ⟨List.mem_cons_self, c⟩]
    · rw [List.filter_cons_of_neg c, ih]
      by_cases d : e ∈ xs ∧ P e = true
      · rw [if_pos d, if_pos ⟨List.mem_cons_of_mem _ d.1, d.2⟩]
      · rw [if_neg d, if_neg]
        rintro ⟨z1, z2⟩
        rcases List.mem_cons.mp z1 with rfl | z1
        · exact c z2
        · exact d ⟨z1, z2⟩
theorem mem_take_last {r : List Int} {w : Nat} {x : Int} (h1 : x ∈ r.take (w + 1)) (h2 : x ∉ r.take w) : r[w]? = some x := by
  rw [List.take_succ, List.mem_append] at h1
  rcases h1 with h1 | h1
  · exact absurd h1 h2
  · cases e : r[w]? with
    | none =>
      rw [e] at h1
      cases h1
    | some y =>
      rw [e] at h1
      have : x = y := by simpa using h1
      rw [this]
/-- whether the page that left the window is gone -/
def gnB (w : Nat) (xs : List Int) (k : Nat) : Bool := decide (w ≤ k) && decide (pg xs (k - w) ∉ wn w xs (k + 1))
def gn (w : Nat) (xs : List Int) (k : Nat) : List Int := if gnB w xs k = true then [pg xs (k - w)] else []
theorem rev_at {xs : List Int} {k w : Nat} (h : k ≤ xs.length) (hw : w < k) : (xs.take k).reverse[w]? = some (pg xs (k - 1 - w)) := by
  rw [List.getElem?_reverse (by rw [List.length_take]; omega), List.length_take, Nat.min_eq_left h, List.getElem?_take_of_lt (by omega), pg_at (by omega)]
theorem gone_eq {w : Nat} {xs : List Int} {k : Nat} (hw : 1 ≤ w) (h : k < xs.length) : (bh w xs k).filter (fun x => decide (x ∉ bh w xs (k + 1))) = gn w xs k := by
  obtain ⟨v, rfl⟩ : ∃ v, w = v + 1 := ⟨w - 1, by omega⟩
  have sub : ∀ x, x ∈ (xs.take k).reverse.take v → x ∈ wn (v + 1) xs (k + 1) := fun x hx => by
    unfold wn
    rw [take_rev h, List.take_succ_cons]
    exact List.mem_cons_of_mem _ hx
  have only : ∀ x ∈ bh (v + 1) xs k, decide (x ∉ bh (v + 1) xs (k + 1)) = true → v < k ∧ x = pg xs (k - (v + 1)) := fun x hx hd => by
    have h1 : x ∈ (xs.take k).reverse.take (v + 1) := bh_mem.mp hx
    have h2 : x ∉ (xs.take k).reverse.take v := fun z => (of_decide_eq_true hd) (bh_mem.mpr (sub x z))
    have h3 := mem_take_last h1 h2
    have lt := (List.getElem?_eq_some_iff.mp h3).1
    rw [List.length_reverse, List.length_take] at lt
    have lt2 : v < k := by omega
    rw [rev_at (by omega) lt2] at h3
    exact ⟨lt2, by rw [← Option.some.inj h3]; congr 1; omega⟩
  rw [filter_one bh_nd fun x hx hd => (only x hx hd).2]
  unfold gn
  by_cases c : gnB (v + 1) xs k = true
  · rw [if_pos c]
    unfold gnB at c
    rw [Bool.and_eq_true, decide_eq_true_eq, decide_eq_true_eq] at c
    refine if_pos ⟨bh_mem.mpr ?_, decide_eq_true fun z => c.2 (bh_mem.mp z)⟩
    have e : (xs.take k).reverse[v]? = some (pg xs (k - (v + 1))) := by
      rw [rev_at (by omega) (by omega)]
      congr 2
      omega
    unfold wn
    exact List.mem_of_getElem? (i := v) (by rw [List.getElem?_take_of_lt (by omega)]; exact e)
  · rw [if_neg c]
    refine if_neg fun z => c ?_
    have lt := (only _ z.1 z.2).1
    unfold gnB
    rw [Bool.and_eq_true, decide_eq_true_eq, decide_eq_true_eq]
    exact ⟨by omega, fun y => (of_decide_eq_true z.2) (bh_mem.mpr y)⟩
theorem forM_ix {ι α : Type} {f : ι → α → Option ι} (I : Nat → ι → Prop) : ∀ {xs : List α} {n : Nat} {s : ι}, I n s → (∀ k x s, xs[k]? = some x → I (n + k) s → ∃ s', f s x = some s' ∧ I (n + k + 1) s') → ∃ s', forM f xs s = some s' ∧ I (n + xs.length) s'
  | [], n, s, h, _ => ⟨s, rfl, h⟩
  | x :: xs, n, s, h, hf => by
    obtain ⟨s1, e1, h1⟩ := hf 0 x s rfl h
    obtain ⟨s2, e2, h2⟩ := forM_ix (f := f) I (xs := xs) (n := n + 1) h1 fun k y s hy hi => by
      have := hf (k + 1) y s hy (by rw [show n + (k + 1) = n + 1 + k by omega]; exact hi)
      rwa [show n + (k + 1) + 1 = n + 1 + k + 1 by omega] at this
    refine ⟨s2, ?_, by rw [List.length_cons, show n + (xs.length + 1) = n + 1 + xs.length by omega]; exact h2⟩
    show (f s x).bind _ = _
    rw [e1]
    exact e2
end J
namespace Tu
open J
theorem slc_drop {α : Type} {xs : List α} {lo : Int} (h : 0 ≤ lo) : slc xs (some lo) none = xs.drop lo.toNat := by
  have e1 : sx xs.length xs.length none = xs.length := rfl
  have e2 : sx xs.length 0 (some lo) = min lo.toNat xs.length := by
    show (if lo < 0 then _ else _) = _
    rw [if_neg (by omega)]
  unfold slc
  rw [e1, e2]
  by_cases hl : lo.toNat ≤ xs.length
  · rw [Nat.min_eq_left hl]
    exact List.take_of_length_le (by rw [List.length_drop]; omega)
  · rw [Nat.min_eq_right (by omega), List.drop_eq_nil_of_le (Nat.le_refl _), List.drop_eq_nil_of_le (by omega)]
    simp
theorem slc_take {α : Type} {xs : List α} {hi : Int} (h : 0 ≤ hi) : slc xs none (some hi) = xs.take hi.toNat := by
  have e1 : sx xs.length xs.length (some hi) = min hi.toNat xs.length := by
    show (if hi < 0 then _ else _) = _
    rw [if_neg (by omega)]
  have e2 : sx xs.length 0 none = 0 := rfl
  unfold slc
  rw [e1, e2, List.drop_zero, Nat.sub_zero]
  by_cases hl : hi.toNat ≤ xs.length
  · rw [Nat.min_eq_left hl]
  · rw [Nat.min_eq_right (by omega), List.take_of_length_le (Nat.le_refl _), List.take_of_length_le (by omega)]
structure Bg (N fold turn : Int) (great : List Int) : Prop where
  f0 : 0 ≤ fold
  f1 : fold < 2305843009213693951
  t0 : 0 ≤ turn
  t1 : turn ≤ N
  few : great.length ≤ 63
theorem Bg.mono {N M fold turn : Int} {great : List Int} (h : Bg N fold turn great) (e : N ≤ M) : Bg M fold turn great := ⟨h.f0, h.f1, h.t0, Int.le_trans h.t1 e, h.few⟩
theorem bag_ok {ns : List Int} (hl : ns.length ≤ 63) : Tot (m_law_bag ns) fun r => Bg 0 r.2.1 r.2.2 r.1 := by
  unfold m_law_bag
  refine tot_bind (tot_forB (I := fun k s => (0 ≤ s.2 ∧ s.2 < 2305843009213693951) ∧ s.1.length ≤ k) (K := ns.length) (k := 0) ⟨by dsimp only; omega, Nat.le_refl _⟩ (Nat.zero_add _) fun k s x _ hk hI => ?_) fun s hs => ?_
  · obtain ⟨h1, h2⟩ := hI
    unfold m_law_bag_b0
    refine tot_bind (P := fun _ => True) (tot_ite (fun _ => tot_some trivial) fun _ => tot_some trivial) fun z _ => ?_
    refine tot_let ?_
    refine tot_bind (P := fun l : List Int => l.length ≤ k + 1) (tot_ite (fun c => ?_) fun c => tot_some (by omega)) fun l hl => ?_
    · rw [psh_ok (by omega)]
      exact tot_some (by simp; omega)
    · exact tot_some ⟨⟨Int.emod_nonneg _ (by omega), Int.emod_lt_of_pos _ (by omega)⟩, hl⟩
  · obtain ⟨h1, h2⟩ := hs
    exact tot_some ⟨h1.1, h1.2, by dsimp only; omega, by dsimp only; omega, by dsimp only; omega⟩
theorem pop0 : ∀ (n : Nat) (g : List Int), g.length < n → g.length ≤ 63 → Tot (whileM m_law_draw_t0 m_law_draw_w1 n g) fun s => s.length ≤ 63
  | 0, g, h, _ => absurd h (by omega)
  | n + 1, [], _, h => ⟨[], rfl, h⟩
  | n + 1, x :: g, h1, h2 => by
    have e : m_law_draw_t0 (x :: g) = some (decide (x = 0)) := rfl
    show Tot ((m_law_draw_t0 (x :: g)).bind _) _
    rw [e]
    refine tot_let (tot_ite (fun c => ?_) fun c => tot_some h2)
    have e2 : m_law_draw_w1 (x :: g) = some g := by
      unfold m_law_draw_w1 popG
      rw [if_pos (by omega)]
      have : ixp (x :: g).length 0 = some 0 := by unfold ixp; simp
      rw [this]
      rfl
    rw [e2]
    simp only [List.length_cons] at h1 h2
    exact tot_let (pop0 n g (by omega) (by omega))
theorem draw_ok {N fold turn many : Int} {great : List Int} (h : Bg N fold turn great) (hm : 1 ≤ many ∧ many < 2000000000000) (hN : N < 1000000) : Tot (m_law_draw many great fold turn) fun r => (0 ≤ r.1 ∧ r.1 < many) ∧ Bg (N + 1) fold r.2.2 r.2.1 := by
  unfold m_law_draw
  obtain ⟨f0, f1, t0, t1, few⟩ := h
  refine tot_bind (pop0 _ great (by omega) few) fun s hs => ?_
  refine tot_ite (fun c => ?_) fun c => ?_
  · have hne : s ≠ [] := of_decide_eq_true c
    obtain ⟨x, s, rfl⟩ := List.exists_cons_of_ne_nil hne
    have e : gx (x :: s) 0 = some x := rfl
    rw [e, Option.bind_some, modG_ok (by omega), Option.bind_some, Option.bind_some, divG_ok (by omega), Option.bind_some]
    have : stx (x :: s) 0 (x / many) = some ((x / many) :: s) := by
      unfold stx
      have : ixp (x :: s).length 0 = some 0 := by unfold ixp; simp
      rw [this]
      rfl
    rw [this]
    exact tot_some ⟨⟨Int.emod_nonneg _ (by omega), Int.emod_lt_of_pos _ (by omega)⟩, f0, f1, by dsimp only; omega, by dsimp only; omega, hs⟩
  · rw [powG_ok (by omega), Option.bind_some, mulG_ok (.inl (by omega)), Option.bind_some, Option.bind_some]
    have hmod : ∀ z : Int, (z % (2305843009213693952 - 1)).natAbs < 18446744073709551616 := fun z => by
      have := Int.emod_nonneg z (b := 2305843009213693952 - 1) (by omega)
      have := Int.emod_lt_of_pos z (b := 2305843009213693952 - 1) (by omega)
      omega
    rw [powG_ok (hmod _), Option.bind_some, modG_ok (by omega)]
    exact tot_some ⟨⟨Int.emod_nonneg _ (by omega), Int.emod_lt_of_pos _ (by omega)⟩, f0, f1, by dsimp only; omega, by dsimp only; omega, hs⟩
theorem pages_ok {N fold turn : Int} {great : List Int} (h : Bg N fold turn great) (hN : N < 100000) : Tot (m_law_pages great fold turn) fun r => (r.1.length = 9 ∧ ∀ p ∈ r.1, 0 ≤ p ∧ p < 1000000000000) ∧ Bg (N + 2) fold r.2.2 r.2.1 := by
  unfold m_law_pages
  refine tot_bind (draw_ok h (by omega) (by omega)) fun r hr => ?_
  obtain ⟨⟨r0, r1⟩, hb⟩ := hr
  refine tot_let (tot_bind (draw_ok hb (by omega) (by omega)) fun q hq => ?_)
  obtain ⟨⟨q0, q1⟩, hb⟩ := hq
  rw [slc_drop q0, slc_take q0, catG_ok (by simp; omega)]
  refine tot_some ⟨⟨?_, fun p hp => ?_⟩, hb.mono (by omega)⟩
  · simp
    omega
  · have hp : p ∈ ([0, 1, 2, 9, 10, 100, (1000000000 - 1), 1000000000, (11 + r.1)] : List Int) := by
      rcases List.mem_append.mp hp with z | z
      · exact List.mem_of_mem_drop z
      · exact List.mem_of_mem_take z
    simp only [List.mem_cons, List.not_mem_nil, or_false] at hp
    rcases hp with rfl | rfl | rfl | rfl | rfl | rfl | rfl | rfl | rfl <;> omega
theorem line_ok {N fold turn a1 : Int} {great : List Int} (h : Bg N fold turn great) (ha : 0 ≤ a1 ∧ a1 ≤ 200) (hN : N < 100000) : Tot (m_law_line a1 great fold turn) fun r => (r.1.length ≤ 200 ∧ ∀ p ∈ r.1, 0 ≤ p ∧ p < 1000000000000) ∧ Bg (N + 1000) fold r.2.2 r.2.1 := by
  unfold m_law_line
  refine tot_bind (pages_ok h (by omega)) fun x1 h1 => ?_
  obtain ⟨⟨hp, hpb⟩, hb⟩ := h1
  refine tot_bind (draw_ok hb (by omega) (by omega)) fun x2 h2 => ?_
  obtain ⟨⟨r0, r1⟩, hb⟩ := h2
  refine tot_bind (draw_ok hb (by omega) (by omega)) fun x3 h3 => ?_
  obtain ⟨_, hb⟩ := h3
  refine tot_bind (P := fun s : List Int × (Int × (List Int × Int)) => (1 ≤ s.2.2.2 ∧ s.2.2.2 ≤ s.2.2.1.length ∧ s.2.2.1.length ≤ 100 ∧ ∀ p ∈ s.2.2.1, 0 ≤ p ∧ p < 1000000000000) ∧ Bg (N + 10) fold s.2.1 s.1) (tot_ite (fun c => ?_) fun c => tot_some ⟨⟨by dsimp only; omega, by dsimp only; omega, by dsimp only; omega, hpb⟩, hb.mono (by omega)⟩) fun s hs => ?_
  · refine tot_bind (draw_ok hb (by omega) (by omega)) fun x6 h6 => ?_
    obtain ⟨⟨v0, v1⟩, hb⟩ := h6
    refine tot_bind (draw_ok hb (by omega) (by omega)) fun x7 h7 => ?_
    obtain ⟨⟨q0, q1⟩, hb⟩ := h7
    refine tot_bind (draw_ok hb (by omega) (by omega)) fun x8 h8 => ?_
    obtain ⟨⟨u0, u1⟩, hb⟩ := h8
    rw [rngG_ok (by omega)]
    refine tot_let ?_
    rw [lcM_map (g := fun k : Int => x6.1 + (1 + x7.1) * k) (fun k hk => ?_) (by rw [rng_len]; omega)]
    · refine tot_let (tot_some ⟨?_, hb.mono (by omega)⟩)
      dsimp only
      rw [List.length_map, rng_len]
      refine ⟨by omega, by omega, by omega, fun p hp => ?_⟩
      obtain ⟨k, hk, rfl⟩ := List.mem_map.mp hp
      have hk := rng_mem hk
      have m1 : 0 ≤ (1 + x7.1) * k := Int.mul_nonneg (by omega) (by omega)
      have m2 : (1 + x7.1) * k ≤ 1000000 * 100 := Int.mul_le_mul (by omega) (by omega) (by omega) (by omega)
      omega
    · unfold m_law_line_c0
      rw [mulG_ok (.inl (by omega))]
      rfl
  · obtain ⟨⟨m1, m2, m3, m4⟩, hb⟩ := hs
    refine tot_bind (draw_ok hb (by omega) (by omega)) fun x15 h15 => ?_
    obtain ⟨⟨k0, k1⟩, hb⟩ := h15
    refine tot_bind (draw_ok hb (by omega) (by omega)) fun x17 h17 => ?_
    obtain ⟨⟨n0, n1⟩, hb⟩ := h17
    rw [rngG_ok (by omega)]
    refine tot_let ?_
    refine tot_bind (tot_forB (I := fun k z => Bg (N + 12 + 4 * k) fold z.2.1 z.1 ∧ z.2.2.length = k ∧ ∀ p ∈ z.2.2, 0 ≤ p ∧ p < 1000000000000) (K := x17.1.toNat) (k := 0) ⟨hb.mono (by omega), rfl, fun p h => nomatch h⟩ (by rw [rng_len]; omega) fun k z x hx hk2 hI => ?_) fun z hz => ?_
    · obtain ⟨hb, hk, hkb⟩ := hI
      have hx2 := rng_mem hx
      unfold m_law_line_b1
      refine tot_bind (draw_ok hb (by omega) (by omega)) fun u hu => ?_
      obtain ⟨⟨u0, u1⟩, hb⟩ := hu
      refine tot_bind (draw_ok hb (by omega) (by omega)) fun v hv => ?_
      obtain ⟨⟨v0, v1⟩, hb⟩ := hv
      rw [modG_ok (by omega), modG_ok (by omega)]
      refine tot_let (tot_let ?_)
      obtain ⟨t, ht, e⟩ := gx_ok (xs := ([u.1, v.1, x % s.2.2.2, x / 3 % s.2.2.2] : List Int)) (i := x15.1) (by simp; omega)
      rw [e]
      have ht2 : 0 ≤ t ∧ t < s.2.2.2 := by
        have a1 := Int.emod_nonneg x (b := s.2.2.2) (by omega)
        have a2 := Int.emod_lt_of_pos x (b := s.2.2.2) (by omega)
        have a3 := Int.emod_nonneg (x / 3) (b := s.2.2.2) (by omega)
        have a4 := Int.emod_lt_of_pos (x / 3) (b := s.2.2.2) (by omega)
        simp only [List.mem_cons, List.not_mem_nil, or_false] at ht
        rcases ht with rfl | rfl | rfl | rfl <;> omega
      refine tot_let (tot_bind (draw_ok hb (by omega) (by omega)) fun y hy => ?_)
      obtain ⟨_, hb⟩ := hy
      refine tot_bind (P := fun q : List Int × (Int × Int) => (0 ≤ q.2.2 ∧ q.2.2 < s.2.2.1.length) ∧ Bg (N + 12 + 4 * k + 1 + 1 + 1 + 1) fold q.2.1 q.1) (tot_ite (fun c => ?_) fun c => tot_some ⟨by dsimp only; omega, hb.mono (by omega)⟩) fun q hq => ?_
      · refine tot_bind (draw_ok hb (by omega) (by omega)) fun w hw => ?_
        obtain ⟨⟨w0, w1⟩, hb⟩ := hw
        exact tot_some ⟨⟨w0, w1⟩, hb⟩
      · obtain ⟨⟨q0, q1⟩, hb⟩ := hq
        obtain ⟨t, htm, e⟩ := gx_ok (xs := s.2.2.1) (i := q.2.2) (by omega)
        rw [e]
        refine tot_let ?_
        rw [psh_ok (by omega)]
        refine tot_some ⟨hb.mono (by omega), by simp [hk], fun p hp => ?_⟩
        rcases List.mem_append.mp hp with z1 | z1
        · exact hkb p z1
        · rw [List.mem_singleton.mp z1]
          exact m4 t htm
    · obtain ⟨hb, hk, hkb⟩ := hz
      exact tot_some ⟨⟨by dsimp only; omega, hkb⟩, hb.mono (by omega)⟩
theorem maxDf_spec {xs : List Int} {d : Int} : (xs = [] → maxDf xs d = d) ∧ (∀ x ∈ xs, x ≤ maxDf xs d) ∧ (xs ≠ [] → maxDf xs d ∈ xs) := by
  cases xs with
  | nil => exact ⟨fun _ => rfl, ⟨fun x h => (List.not_mem_nil h).elim, fun h => absurd rfl h⟩⟩
  | cons t ts =>
    obtain ⟨m, hm, em, hmax⟩ := maxG_int (xs := t :: ts) (by simp)
    have e : maxDf (t :: ts) d = m := by
      have : maxG (t :: ts) = some (maxDf (t :: ts) d) := rfl
      rw [this] at em
      exact Option.some.inj em
    rw [e]
    exact ⟨fun h => (by cases h), hmax, fun _ => hm⟩
/-- a lot of jobs as they are drawn -/
def LotOk (n w : Int) (lot : List (List Int × Int)) : Prop := (lot.length : Int) ≤ n ∧ ∀ e ∈ lot, (e.1.length ≤ 200 ∧ ∀ p ∈ e.1, 0 ≤ p ∧ p < 1000000000000) ∧ 1 ≤ e.2 ∧ e.2 ≤ w
theorem lot_ok {N fold turn : Int} {great : List Int} (h : Bg N fold turn great) (hN : N < 50000) : Tot (m_law_lot great fold turn) fun r => LotOk 6 60 r.1 ∧ Bg (N + 7000) fold r.2.2 r.2.1 := by
  unfold m_law_lot
  refine tot_bind (draw_ok h (by omega) (by omega)) fun x2 h2 => ?_
  obtain ⟨⟨a0, a1⟩, hb⟩ := h2
  refine tot_bind (draw_ok hb (by omega) (by omega)) fun x3 h3 => ?_
  obtain ⟨⟨b0, b1⟩, hb⟩ := h3
  obtain ⟨x4, hx4, e4⟩ := gx_ok (xs := ([0, 2, 3 + x2.1] : List Int)) (i := x3.1) (by simp; omega)
  rw [e4]
  have g4 : 0 ≤ x4 ∧ x4 ≤ 12 := by
    simp only [List.mem_cons, List.not_mem_nil, or_false] at hx4
    omega
  refine tot_let (tot_bind (draw_ok hb (by omega) (by omega)) fun x5 h5 => ?_)
  obtain ⟨⟨c0, c1⟩, hb⟩ := h5
  refine tot_bind (draw_ok hb (by omega) (by omega)) fun x6 h6 => ?_
  obtain ⟨⟨d0, d1⟩, hb⟩ := h6
  refine tot_bind (draw_ok hb (by omega) (by omega)) fun x7 h7 => ?_
  obtain ⟨⟨e0, e1⟩, hb⟩ := h7
  obtain ⟨x8, hx8, e8⟩ := gx_ok (xs := ([x5.1, 2 + x6.1] : List Int)) (i := x7.1) (by simp; omega)
  rw [e8]
  have g8 : 0 ≤ x8 ∧ x8 ≤ 6 := by
    simp only [List.mem_cons, List.not_mem_nil, or_false] at hx8
    omega
  refine tot_let ?_
  rw [rngG_ok (by omega)]
  refine tot_let (tot_bind (tot_forB (I := fun k z => Bg (N + 6 + 1004 * k) fold z.2.1 z.1 ∧ z.2.2.length = k ∧ ∀ e ∈ z.2.2, (e.1.length ≤ 200 ∧ ∀ p ∈ e.1, 0 ≤ p ∧ p < 1000000000000) ∧ 1 ≤ e.2 ∧ e.2 ≤ 60) (K := x8.toNat) (k := 0) ⟨hb.mono (by omega), rfl, fun p h => nomatch h⟩ (by rw [rng_len]; omega) fun k z x hx hk2 hI => ?_) fun z hz => ?_)
  · obtain ⟨hb, hk, hkb⟩ := hI
    unfold m_law_lot_b0
    refine tot_bind (draw_ok hb (by omega) (by omega)) fun u hu => ?_
    obtain ⟨⟨u0, u1⟩, hb⟩ := hu
    obtain ⟨m, hm, em⟩ := gx_ok (xs := ([5, 9, 14, 14, 30, 30, 60, 200] : List Int)) (i := u.1) (by simp; omega)
    rw [em]
    have gm : 0 ≤ m ∧ m ≤ 200 := by
      simp only [List.mem_cons, List.not_mem_nil, or_false] at hm
      omega
    refine tot_let (tot_bind (line_ok hb gm (by omega)) fun l hl => ?_)
    obtain ⟨hl, hb⟩ := hl
    refine tot_bind (draw_ok hb (by omega) (by omega)) fun v hv => ?_
    obtain ⟨⟨v0, v1⟩, hb⟩ := hv
    obtain ⟨q, hq, eq⟩ := gx_ok (xs := ([3, 6, 12, 60] : List Int)) (i := v.1) (by simp; omega)
    rw [eq]
    have gq : 1 ≤ q ∧ q ≤ 60 := by
      simp only [List.mem_cons, List.not_mem_nil, or_false] at hq
      omega
    refine tot_let (tot_bind (draw_ok hb (by omega) (by omega)) fun y hy => ?_)
    obtain ⟨⟨y0, y1⟩, hb⟩ := hy
    refine tot_bind (P := fun s : List Int × (Int × Int) => (1 ≤ s.2.2 ∧ s.2.2 ≤ 60) ∧ Bg (N + 6 + 1004 * (k + 1 : Nat)) fold s.2.1 s.1) (tot_ite (fun c => ?_) fun c => tot_some ⟨by dsimp only; omega, hb.mono (by omega)⟩) fun s hs => ?_
    · refine tot_bind (draw_ok hb (by omega) (by omega)) fun w hw => ?_
      obtain ⟨⟨w0, w1⟩, hb⟩ := hw
      have := of_decide_eq_true c
      exact tot_some ⟨by dsimp only; omega, hb.mono (by omega)⟩
    · rw [psh_ok (by omega)]
      refine tot_let (tot_some ⟨hs.2, by simp [hk], fun e he => ?_⟩)
      rcases List.mem_append.mp he with z1 | z1
      · exact hkb e z1
      · rw [List.mem_singleton.mp z1]
        exact ⟨hl, hs.1⟩
  · obtain ⟨hb, hk, hkb⟩ := hz
    exact tot_some ⟨⟨by dsimp only; omega, hkb⟩, hb.mono (by omega)⟩
theorem size_ok {N fold turn : Int} {great : List Int} (h : Bg N fold turn great) (hN : N < 100000) : Tot (m_law_size great fold turn) fun r => (1 ≤ r.1 ∧ r.1 ≤ 300) ∧ Bg (N + 2) fold r.2.2 r.2.1 := by
  unfold m_law_size
  refine tot_bind (draw_ok h (by omega) (by omega)) fun x1 h1 => ?_
  obtain ⟨⟨r0, r1⟩, hb⟩ := h1
  refine tot_bind (draw_ok hb (by omega) (by omega)) fun x2 h2 => ?_
  obtain ⟨⟨q0, q1⟩, hb⟩ := h2
  obtain ⟨t, ht, e⟩ := gx_ok (xs := ([1, 1, 2, 1 + x1.1, 300] : List Int)) (i := x2.1) (by simp; omega)
  rw [e]
  have ht2 : 1 ≤ t ∧ t ≤ 300 := by
    simp only [List.mem_cons, List.not_mem_nil, or_false] at ht
    omega
  exact tot_let (tot_some ⟨ht2, hb.mono (by omega)⟩)
theorem many_ok {N fold turn n w : Int} {great : List Int} {lot : List (List Int × Int)} (h : Bg N fold turn great) (hl : LotOk n w lot) (hn : n ≤ 100) (hw : w ≤ 64) (hN : N < 100000) : Tot (m_law_many lot great fold turn) fun r => ((∀ e ∈ lot, e.2 ≤ r.1) ∧ 1 ≤ r.1 ∧ r.1 ≤ 64) ∧ Bg (N + 3) fold r.2.2 r.2.1 := by
  unfold m_law_many
  obtain ⟨hl1, hl2⟩ := hl
  rw [lcM_map (g := fun e : List Int × Int => e.2) (fun e _ => rfl) (by omega)]
  refine tot_let (tot_bind (draw_ok h (by omega) (by omega)) fun x1 h1 => ?_)
  obtain ⟨⟨r0, r1⟩, hb⟩ := h1
  refine tot_bind (draw_ok hb (by omega) (by omega)) fun x2 h2 => ?_
  obtain ⟨⟨q0, q1⟩, hb⟩ := h2
  refine tot_bind (draw_ok hb (by omega) (by omega)) fun x3 h3 => ?_
  obtain ⟨⟨p0, p1⟩, hb⟩ := h3
  obtain ⟨t, ht, e⟩ := gx_ok (xs := ([0, 0, 0, 1, x1.1, x2.1] : List Int)) (i := x3.1) (by simp; omega)
  rw [e]
  have ht2 : 0 ≤ t := by
    simp only [List.mem_cons, List.not_mem_nil, or_false] at ht
    omega
  refine tot_let (tot_some ⟨?_, hb.mono (by omega)⟩)
  dsimp only
  obtain ⟨m1, m2, m3⟩ := maxDf_spec (xs := lot.map fun e : List Int × Int => e.2) (d := 1)
  have g : 1 ≤ maxDf (lot.map fun e : List Int × Int => e.2) 1 ∧ maxDf (lot.map fun e : List Int × Int => e.2) 1 ≤ 64 := by
    by_cases c : lot.map (fun e : List Int × Int => e.2) = []
    · rw [m1 c]; omega
    · obtain ⟨e, he, h9⟩ := List.mem_map.mp (m3 c)
      have := hl2 e he
      omega
  refine ⟨fun e he => ?_, ?_, ?_⟩
  · have h1 := m2 e.2 (List.mem_map.mpr ⟨e, he, rfl⟩)
    have h2 := hl2 e he
    split <;> omega
  · split <;> omega
  · split <;> omega
end Tu
namespace Tu
open J
def loop {α : Type} (c : α → Bool) (f : α → α) : Nat → α → α
  | 0, s => s
  | n + 1, s => if c s = true then loop c f n (f s) else s
theorem loop_inv {α : Type} {c : α → Bool} {f : α → α} (I : α → Prop) (m : α → Nat) (hf : ∀ s, I s → c s = true → I (f s) ∧ m (f s) < m s) : ∀ (M : Nat) (s : α), I s → m s < M → I (loop c f M s) ∧ c (loop c f M s) = false ∧ m (loop c f M s) ≤ m s
  | 0, s, _, h => absurd h (by omega)
  | M + 1, s, hI, h => by
    unfold loop
    by_cases e : c s = true
    · rw [if_pos e]
      obtain ⟨h1, h2⟩ := hf s hI e
      obtain ⟨a, b, d⟩ := loop_inv I m hf M (f s) h1 (by omega)
      exact ⟨a, b, by omega⟩
    · rw [if_neg e]
      exact ⟨hI, by simpa using e, Nat.le_refl _⟩
theorem while_loop {α β : Type} (e : α → β) {c : β → Option Bool} {f : β → Option β} {c' : α → Bool} {f' : α → α} (I : α → Prop) (m : α → Nat) (hc : ∀ s, I s → c (e s) = some (c' s)) (hf : ∀ s, I s → c' s = true → f (e s) = some (e (f' s)) ∧ I (f' s) ∧ m (f' s) < m s) : ∀ (M N : Nat) (s : α), I s → m s < M → m s < N → whileM c f N (e s) = some (e (loop c' f' M s))
  | 0, _, _, _, h, _ => absurd h (by omega)
  | _, 0, _, _, _, h => absurd h (by omega)
  | M + 1, N + 1, s, hI, h1, h2 => by
    unfold loop whileM
    rw [hc s hI, Option.bind_some]
    by_cases q : c' s = true
    · rw [if_pos q, if_pos q]
      obtain ⟨h3, h4, h5⟩ := hf s hI q
      rw [h3, Option.bind_some]
      exact while_loop e I m hc hf M N (f' s) h4 (by omega) (by omega)
    · rw [if_neg q, if_neg q]
def sumTo (n : Nat) (g : Nat → Nat) : Nat := ((List.range n).map g).sum
theorem sumTo_succ (n : Nat) (g : Nat → Nat) : sumTo (n + 1) g = sumTo n g + g n := by
  unfold sumTo
  rw [List.range_succ, List.map_append, List.sum_append_nat]
  simp
theorem sumTo_congr {n : Nat} {g h : Nat → Nat} (e : ∀ k, k < n → g k = h k) : sumTo n g = sumTo n h := by
  induction n with
  | zero => rfl
  | succ n ih => rw [sumTo_succ, sumTo_succ, ih fun k hk => e k (by omega), e n (by omega)]
theorem sumTo_le {n : Nat} {g h : Nat → Nat} (e : ∀ k, k < n → g k ≤ h k) : sumTo n g ≤ sumTo n h := by
  induction n with
  | zero => exact Nat.le_refl _
  | succ n ih =>
    rw [sumTo_succ, sumTo_succ]
    have := ih fun k hk => e k (by omega)
    have := e n (by omega)
    omega
theorem sumTo_const (n c : Nat) : sumTo n (fun _ => c) = n * c := by
  induction n with
  | zero => simp [sumTo]
  | succ n ih => rw [sumTo_succ, ih, Nat.succ_mul]
theorem sumTo_at {n k : Nat} {g : Nat → Nat} (h : k < n) : g k ≤ sumTo n g := by
  induction n with
  | zero => omega
  | succ n ih =>
    rw [sumTo_succ]
    by_cases e : k = n
    · subst e; omega
    · have := ih (by omega); omega
theorem sumTo_upd {n k : Nat} {g h : Nat → Nat} (hk : k < n) (e : ∀ q, q ≠ k → h q = g q) : sumTo n h + g k = sumTo n g + h k := by
  induction n with
  | zero => omega
  | succ n ih =>
    rw [sumTo_succ, sumTo_succ]
    by_cases c : k = n
    · subst c
      rw [sumTo_congr (g := h) (h := g) fun q hq => e q (by omega)]
      omega
    · have := ih (by omega)
      rw [e n (fun h => c h.symm)]
      omega
theorem sumTo_pos {n : Nat} {g : Nat → Nat} (h : 0 < sumTo n g) : ∃ k, k < n ∧ 0 < g k := by
  induction n with
  | zero => simp [sumTo] at h
  | succ n ih =>
    rw [sumTo_succ] at h
    by_cases c : 0 < g n
    · exact ⟨n, by omega, c⟩
    · obtain ⟨k, h1, h2⟩ := ih (by omega)
      exact ⟨k, by omega, h2⟩
theorem sumTo_int (n : Nat) (g : Nat → Nat) : ((List.range n).map fun k => ((g k : Nat) : Int)).sum = (sumTo n g : Nat) := by
  induction n with
  | zero => rfl
  | succ n ih => rw [List.range_succ, List.map_append, List.sum_append_int, ih, sumTo_succ]; simp
structure Pl where
  n : Nat
  T : Nat → List Int
  W : Nat → Nat
  F : Nat
  Q : Nat
structure Jo where
  a : Nat
  h : List Int
  s : Option Nat
  o : Nat
  b : Nat
abbrev JT := Int × List Int × Int × Int × List (Int × Bool) × Option Int × Int × Int
def mk (h : List Int) : List (Int × Bool) := h.map fun p => (p, true)
def toJ (P : Pl) (k : Nat) (j : Jo) : JT := ((k : Int), P.T k, (P.W k : Int), (j.a : Int), mk j.h, j.s.map (fun x : Nat => (x : Int)), (j.o : Int), (j.b : Int))
structure Sy where
  jb : Nat → Jo
  wait : List Nat
  told : List Hap
def upd (f : Nat → Jo) (k : Nat) (v : Jo) : Nat → Jo := fun x => if x = k then v else f x
theorem upd_same {f : Nat → Jo} {k : Nat} {v : Jo} : upd f k v k = v := if_pos rfl
theorem upd_ne {f : Nat → Jo} {k q : Nat} {v : Jo} (h : q ≠ k) : upd f k v q = f q := if_neg h
def encJ (P : Pl) (f : Nat → Jo) : List JT := (List.range P.n).map fun k => toJ P k (f k)
def encW (ws : List Nat) : List Int := ws.map fun k : Nat => (k : Int)
theorem encJ_len {P : Pl} {f : Nat → Jo} : (encJ P f).length = P.n := by unfold encJ; rw [List.length_map, List.length_range]
theorem encW_len {ws : List Nat} : (encW ws).length = ws.length := List.length_map _
theorem rng_enc (n : Nat) : rng 0 n = encW (List.range n) := by
  unfold rng encW
  exact List.map_congr_left fun i _ => by omega
theorem gxN_enc {P : Pl} {f : Nat → Jo} {k : Nat} (h : k < P.n) : gxN (encJ P f) (k : Int) = some (toJ P k (f k)) := by
  unfold gxN encJ
  rw [if_pos (by omega), Int.toNat_natCast, List.getElem?_map, List.getElem?_range h]
  rfl
theorem set_enc {P : Pl} {f : Nat → Jo} {k : Nat} {v : Jo} : List.set (encJ P f) ((k : Int)).toNat (toJ P k v) = encJ P (upd f k v) := by
  rw [Int.toNat_natCast]
  unfold encJ
  apply List.ext_getElem?
  intro i
  rw [List.getElem?_set, List.getElem?_map, List.getElem?_map, List.length_map, List.length_range]
  by_cases c : k = i
  · subst c
    rw [if_pos rfl]
    by_cases h : k < P.n
    · rw [if_pos h, List.getElem?_range h]
      show _ = some (toJ P k (upd f k v k))
      rw [upd_same]
    · rw [if_neg h, List.getElem?_eq_none (by rw [List.length_range]; omega)]
      rfl
  · rw [if_neg c]
    by_cases h : i < P.n
    · rw [List.getElem?_range h]
      show some (toJ P i (f i)) = some (toJ P i (upd f k v i))
      rw [upd_ne (Ne.symm c)]
    · rw [List.getElem?_eq_none (by rw [List.length_range]; omega)]
      rfl
theorem mk_keys (h : List Int) : (mk h).map (·.1) = h := by
  unfold mk
  rw [List.map_map]
  exact List.map_id' h
theorem mk_len (h : List Int) : (mk h).length = h.length := List.length_map _
theorem mk_has {h : List Int} {p : Int} : dhas (mk h) p = decide (p ∈ h) := by
  have := keys_iff (m := mk h) (q := p)
  rw [mk_keys] at this
  unfold dhas
  by_cases c : p ∈ h
  · rw [decide_eq_true c]; exact this.mp c
  · rw [decide_eq_false c]
    by_cases d : (dget (mk h) p).isSome = true
    · exact absurd (this.mpr d) c
    · simpa using d
/-- a dict of pages that are all there: each once, in their order -/
def uq : List Int → List Int := fun l => (dOf (mk l)).map (·.1)
theorem dOf_true : ∀ (ys : List Int) (m : List Int), (ys.foldl (fun m q => dput m q true) (mk m)) = mk ((ys.foldl (fun m q => dput m q true) (mk m)).map (·.1))
  | [], m => by rw [List.foldl_nil, mk_keys]
  | y :: ys, m => by
    rw [List.foldl_cons]
    have : dput (mk m) y true = mk (if y ∈ m then m else m ++ [y]) := by
      unfold dput
      by_cases c : y ∈ m
      · rw [if_pos c, if_pos]
        · unfold mk
          rw [List.map_map]
          refine List.map_congr_left fun p _ => ?_
          show (if p = y then (p, true) else (p, true)) = _
          split <;> rfl
        · exact List.any_eq_true.mpr ⟨(y, true), List.mem_map.mpr ⟨y, c, rfl⟩, decide_eq_true rfl⟩
      · rw [if_neg c, if_neg]
        · unfold mk; rw [List.map_append]; rfl
        · intro h
          obtain ⟨z, hz, e⟩ := List.any_eq_true.mp h
          obtain ⟨p, hp, rfl⟩ := List.mem_map.mp hz
          exact c (of_decide_eq_true e ▸ hp)
    rw [this]
    exact dOf_true ys _
theorem uq_mk (l : List Int) : dOf (mk l) = mk (uq l) := by
  have h := dOf_true l []
  have e : dOf (mk l) = l.foldl (fun m q => dput m q true) (mk []) := by
    unfold dOf mk
    rw [List.foldl_map]
    rfl
  unfold uq
  rw [e]
  exact h
theorem uq_snoc (l : List Int) (x : Int) : uq (l ++ [x]) = if x ∈ uq l then uq l else uq l ++ [x] := by
  have e1 : mk (l ++ [x]) = mk l ++ [(x, true)] := by unfold mk; rw [List.map_append]; rfl
  have : mk (uq (l ++ [x])) = mk (if x ∈ uq l then uq l else uq l ++ [x]) := by
    rw [← uq_mk, e1, dOf_snoc, uq_mk]
    unfold dput
    by_cases c : x ∈ uq l
    · rw [if_pos c, if_pos]
      · unfold mk
        rw [List.map_map]
        refine List.map_congr_left fun p _ => ?_
        show (if p = x then (p, true) else (p, true)) = _
        split <;> rfl
      · exact List.any_eq_true.mpr ⟨(x, true), List.mem_map.mpr ⟨x, c, rfl⟩, decide_eq_true rfl⟩
    · rw [if_neg c, if_neg]
      · unfold mk; rw [List.map_append]; rfl
      · intro h
        obtain ⟨z, hz, e⟩ := List.any_eq_true.mp h
        obtain ⟨p, hp, rfl⟩ := List.mem_map.mp hz
        exact c ((show p = x from of_decide_eq_true e) ▸ hp)
  have h2 := congrArg (List.map (·.1)) this
  rwa [mk_keys, mk_keys] at h2
theorem rev_ind {α : Type} {P : List α → Prop} (h0 : P []) (h1 : ∀ l x, P l → P (l ++ [x])) (l : List α) : P l := by
  have : ∀ r : List α, P r.reverse := fun r => by
    induction r with
    | nil => exact h0
    | cons x r ih => rw [List.reverse_cons]; exact h1 _ _ ih
  have := this l.reverse
  rwa [List.reverse_reverse] at this
theorem uq_mem {p : Int} : ∀ {l : List Int}, p ∈ uq l ↔ p ∈ l := fun {l} => by
  refine rev_ind (P := fun l => p ∈ uq l ↔ p ∈ l) ?_ (fun l x ih => ?_) l
  · show p ∈ ([] : List Int) ↔ _
    exact Iff.rfl
  · rw [uq_snoc, List.mem_append, List.mem_singleton]
    by_cases c : x ∈ uq l
    · rw [if_pos c, ih]
      exact ⟨.inl, fun h => h.elim id fun e => e ▸ (by
        have := c
        subst e
        exact ih.mp this)⟩
    · rw [if_neg c, List.mem_append, List.mem_singleton, ih]
theorem uq_len : ∀ l : List Int, (uq l).length ≤ l.length := fun l => by
  refine rev_ind (P := fun l => (uq l).length ≤ l.length) (Nat.le_refl 0) (fun l x ih => ?_) l
  rw [uq_snoc, List.length_append]
  split
  · simp; omega
  · rw [List.length_append]; simp; omega
theorem uq_self {l : List Int} : l.Nodup → uq l = l := fun h => by
  revert h
  refine rev_ind (P := fun l => l.Nodup → uq l = l) (fun _ => rfl) (fun l x ih h => ?_) l
  obtain ⟨h1, _, h3⟩ := List.nodup_append.mp h
  rw [uq_snoc, ih h1, if_neg]
  intro hx
  exact h3 x hx x (List.mem_singleton.mpr rfl) rfl
end Tu
namespace Tu
open J
theorem lcW_fm {β : Type} {f : Unit → Int → Option (Option β × Unit)} {g : Nat → Option β} {l : List Nat} (h : ∀ k ∈ l, f () (k : Int) = some (g k, ())) (hl : l.length ≤ 16777216) : lcM f (encW l) () = some (l.filterMap g, ()) := by
  rw [lcM_fm (g := fun x : Int => g x.toNat) (fun x hx => by
    obtain ⟨k, hk, rfl⟩ := List.mem_map.mp hx
    rw [h k hk, Int.toNat_natCast]) (by rw [encW_len]; exact hl)]
  unfold encW
  rw [List.filterMap_map]
  rfl
theorem lcW_map {β : Type} {f : Unit → Int → Option (Option β × Unit)} {g : Nat → β} {l : List Nat} (h : ∀ k ∈ l, f () (k : Int) = some (some (g k), ())) (hl : l.length ≤ 16777216) : lcM f (encW l) () = some (l.map g, ()) := by
  rw [lcW_fm (g := fun k => some (g k)) h hl, List.filterMap_eq_map']
theorem lcW_filter {f : Unit → Int → Option (Option Int × Unit)} {p : Nat → Bool} {l : List Nat} (h : ∀ k ∈ l, f () (k : Int) = some (if p k = true then some (k : Int) else none, ())) (hl : l.length ≤ 16777216) : lcM f (encW l) () = some (encW (l.filter p), ()) := by
  rw [lcW_fm (g := fun k => if p k = true then some (k : Int) else none) h hl]
  congr 2
  clear h hl
  induction l with
  | nil => rfl
  | cons x l ih =>
    rw [List.filterMap_cons, List.filter_cons, ih]
    by_cases c : p x = true
    · rw [if_pos c, if_pos c]; rfl
    · rw [if_neg c, if_neg c]
/-- what the plan's fixed things are like -/
structure POk (P : Pl) : Prop where
  n : P.n ≤ 12
  t : ∀ k, k < P.n → (P.T k).length ≤ 200
  w : ∀ k, k < P.n → 1 ≤ P.W k ∧ P.W k ≤ P.F
  f : 1 ≤ P.F ∧ P.F ≤ 1000000
  q : 1 ≤ P.Q ∧ P.Q ≤ 1000
/-- the pages that work behind a requests -/
def wk (P : Pl) (k a : Nat) : List Int := uq (wn (P.W k) (P.T k) a).reverse
theorem wk_mem {P : Pl} {k a : Nat} {p : Int} : p ∈ wk P k a ↔ p ∈ wn (P.W k) (P.T k) a := by
  unfold wk
  rw [uq_mem, List.mem_reverse]
theorem wk_len (P : Pl) (k a : Nat) : (wk P k a).length ≤ P.W k := by
  unfold wk
  have := uq_len (wn (P.W k) (P.T k) a).reverse
  rw [List.length_reverse] at this
  have h2 : (wn (P.W k) (P.T k) a).length ≤ P.W k := by
    unfold wn
    rw [List.length_take]
    omega
  omega
theorem wk_ok {P : Pl} {k a : Nat} {x0 : Int} {h : List (Int × Bool)} {s : Option Int} {o b : Int} (ha : a ≤ (P.T k).length) (hl : (P.T k).length ≤ 200) : m_Job_working_pages x0 (P.T k) (P.W k : Int) (a : Int) h s o b = some (mk (wk P k a)) := by
  unfold m_Job_working_pages
  have e : (if ((a : Int) - (P.W k : Int)) > 0 then ((a : Int) - (P.W k : Int)) else 0) = ((a - P.W k : Nat) : Int) := by split <;> omega
  rw [e, slc_mid (by omega) ha, ← wn_slc ha]
  rw [lcM_map (g := fun p : Int => (p, true)) (fun x _ => rfl) (by
    rw [List.length_reverse]
    unfold wn
    rw [List.length_take, List.length_reverse, List.length_take]
    omega)]
  show some (dOf (mk _)) = _
  rw [uq_mk]
  rfl
theorem wk_okS {P : Pl} {k a : Nat} {x0 : Int} {h : List (Int × Bool)} {s : Option Int} {o b : Int} (ha : a + 1 ≤ (P.T k).length) (hl : (P.T k).length ≤ 200) : m_Job_working_pages x0 (P.T k) (P.W k : Int) ((a : Int) + 1) h s o b = some (mk (wk P k (a + 1))) := by
  have e : ((a : Int) + 1) = ((a + 1 : Nat) : Int) := rfl
  rw [e]
  exact wk_ok ha hl
/-- who is on -/
def on (P : Pl) (f : Nat → Jo) : List Nat := (List.range P.n).filter fun k => (f k).s.isSome
theorem on_mem {P : Pl} {f : Nat → Jo} {k : Nat} : k ∈ on P f ↔ k < P.n ∧ (f k).s.isSome = true := by
  unfold on
  rw [List.mem_filter, List.mem_range]
theorem on_len {P : Pl} {f : Nat → Jo} : (on P f).length ≤ P.n := by
  unfold on
  have := List.length_filter_le (fun k => (f k).s.isSome) (List.range P.n)
  rwa [List.length_range] at this
theorem on_now_ok {P : Pl} {f : Nat → Jo} {x1 x2 x4 : Int} {x3 : List Int} {x5 : List Hap} (hP : POk P) : m_Plan_on_now (encJ P f) x1 x2 x3 x4 x5 = some (encW (on P f)) := by
  unfold m_Plan_on_now
  rw [encJ_len, rng_enc, lcW_filter (p := fun k => (f k).s.isSome) (fun k hk => ?_) (by have := hP.n; rw [List.length_range]; omega)]
  · rfl
  · have hk := List.mem_range.mp hk
    unfold m_Plan_on_now_c0
    rw [gxN_enc hk]
    unfold toJ m_Job_is_on
    cases (f k).s <;> rfl
def wants (P : Pl) (f : Nat → Jo) (ks : List Nat) : Nat := (ks.map fun q => (wk P q (f q).a).length).sum
def stops (P : Pl) (f : Nat → Jo) (k : Nat) : Bool := decide (on P f ≠ []) && decide (P.F ≤ wants P f (on P f ++ [k]))
def letOn (P : Pl) (L : Nat) : List Nat → (Nat → Jo) → List Hap → Sy
  | [], f, t => ⟨f, [], t⟩
  | k :: ws, f, t => if stops P f k = true then ⟨f, k :: ws, t⟩ else letOn P L ws (upd f k { f k with s := some L }) (t ++ [.two "on" (k : Int)])
theorem sum_natI : ∀ {l : List Nat} {g : Nat → Nat}, (l.map fun k => ((g k : Nat) : Int)).sum = ((l.map g).sum : Nat)
  | [], _ => rfl
  | k :: l, g => by rw [List.map_cons, List.sum_cons, sum_natI, List.map_cons, List.sum_cons]; rfl
def lettO (S : Sy) (P : Pl) (L : Nat) : List JT × (List Int × (Int × List Hap)) := (encJ P S.jb, (encW S.wait, (((L : Nat) : Int), S.told)))
theorem let_loop {P : Pl} (hP : POk P) {L : Nat} {x2 : Int} : ∀ (N : Nat) (ws : List Nat) (f : Nat → Jo) (t : List Hap), ws.length < N → ws.length ≤ 16777216 → t.length + ws.length ≤ 16777000 → (∀ k ∈ ws, k < P.n) → (∀ k, k < P.n → (f k).a ≤ (P.T k).length) →
    (whileL m_Plan_let_on_t1 (m_Plan_let_on_w2 (P.F : Int) x2 (L : Int)) N (encJ P f, (encW ws, t))).bind (fun o => Sum.elim (fun s => some (s.1, (s.2.1, (((L : Int) + 1), s.2.2)))) (fun r => some r) o) = some (lettO (letOn P (L + 1) ws f t) P (L + 1))
  | 0, _, _, _, h, _, _, _, _ => absurd h (by omega)
  | N + 1, [], f, t, _, _, _, _, _ => by
    unfold whileL m_Plan_let_on_t1
    rfl
  | N + 1, k :: ws, f, t, h1, h2, h3, h4, h5 => by
    unfold whileL
    have e1 : m_Plan_let_on_t1 (encJ P f, (encW (k :: ws), t)) = some true := by
      unfold m_Plan_let_on_t1
      exact congrArg some (decide_eq_true (by unfold encW; simp))
    rw [e1, Option.bind_some, if_pos rfl]
    simp only [List.length_cons] at h1 h2 h3
    have hk : k < P.n := h4 k List.mem_cons_self
    have g1 : gx (encW (k :: ws)) 0 = some (k : Int) := rfl
    have gp : popG (encW (k :: ws)) 0 = some ((k : Int), encW ws) := by
      unfold popG
      rw [if_pos (by rw [encW_len, List.length_cons]; omega)]
      have : ixp (encW (k :: ws)).length 0 = some 0 := by
        rw [encW_len, List.length_cons]
        unfold ixp
        simp
      rw [this]
      rfl
    have step : ∀ {x : Option (Lp (List JT × (List Int × List Hap)) (List JT × (List Int × (Int × List Hap))))}, x = ((popG (encW (k :: ws)) 0).bind fun x9 => (gxN (encJ P f) (k : Int)).bind fun x11 => (gxN (List.set (encJ P f) ((k : Int)).toNat ((x11.1, (x11.2.1, (x11.2.2.1, (x11.2.2.2.1, (x11.2.2.2.2.1, ((some ((L : Int) + 1)), (x11.2.2.2.2.2.2.1, x11.2.2.2.2.2.2.2))))))) : JT)) (k : Int)).bind fun x14 => (psh t (Hap.two ((("on" : PySem.Str), x14.1) : (PySem.Str × Int)).1 ((("on" : PySem.Str), x14.1) : (PySem.Str × Int)).2)).bind fun x15 => some (.nx ((List.set (encJ P f) ((k : Int)).toNat ((x11.1, (x11.2.1, (x11.2.2.1, (x11.2.2.2.1, (x11.2.2.2.2.1, ((some ((L : Int) + 1)), (x11.2.2.2.2.2.2.1, x11.2.2.2.2.2.2.2))))))) : JT)), (x9.2, x15)))) → x = some (.nx (encJ P (upd f k { f k with s := some (L + 1) }), (encW ws, t ++ [.two "on" (k : Int)]))) := fun {x} hx => by
      rw [hx, gp, Option.bind_some, gxN_enc hk, Option.bind_some]
      have e9 : List.set (encJ P f) ((k : Int)).toNat (((toJ P k (f k)).1, ((toJ P k (f k)).2.1, ((toJ P k (f k)).2.2.1, ((toJ P k (f k)).2.2.2.1, ((toJ P k (f k)).2.2.2.2.1, ((some ((L : Int) + 1)), ((toJ P k (f k)).2.2.2.2.2.2.1, (toJ P k (f k)).2.2.2.2.2.2.2))))))) : JT) = encJ P (upd f k { f k with s := some (L + 1) }) := set_enc (v := { f k with s := some (L + 1) })
      rw [e9, gxN_enc hk, Option.bind_some, psh_ok (by omega)]
      rfl
    have hrec := let_loop hP (L := L) (x2 := x2) N ws (upd f k { f k with s := some (L + 1) }) (t ++ [.two "on" (k : Int)]) (by omega) (by omega) (by rw [List.length_append]; simp; omega) (fun q hq => h4 q (List.mem_cons_of_mem _ hq)) (fun q hq => by
      by_cases c : q = k
      · subst c; rw [upd_same]; exact h5 _ hq
      · rw [upd_ne c]; exact h5 _ hq)
    unfold letOn
    by_cases c1 : on P f = []
    · have es : stops P f k = false := by unfold stops; rw [c1]; rfl
      rw [es, if_neg (by decide)]
      have e2 : m_Plan_let_on_w2 (P.F : Int) x2 (L : Int) (encJ P f, (encW (k :: ws), t)) = some (.nx (encJ P (upd f k { f k with s := some (L + 1) }), (encW ws, t ++ [.two "on" (k : Int)]))) := by
        unfold m_Plan_let_on_w2
        dsimp only
        rw [g1, Option.bind_some, on_now_ok hP, Option.bind_some, c1, if_neg (by decide)]
        exact step rfl
      rw [e2, Option.bind_some]
      exact hrec
    · have hne : decide (encW (on P f) ≠ ([] : List Int)) = true := decide_eq_true (by unfold encW; simpa using c1)
      have hs : (lcM (m_Plan_let_on_c0 (encJ P f, (encW (k :: ws), t))) (encW (on P f ++ [k])) ()) = some ((on P f ++ [k]).map (fun q => ((wk P q (f q).a).length : Int)), ()) := lcW_map (g := fun q => ((wk P q (f q).a).length : Int)) (fun q hq => by
        have hq : q < P.n := by
          rcases List.mem_append.mp hq with z | z
          · exact (on_mem.mp z).1
          · rw [List.mem_singleton.mp z]; exact hk
        unfold m_Plan_let_on_c0
        dsimp only
        rw [gxN_enc hq, Option.bind_some]
        unfold toJ
        dsimp only
        rw [wk_ok (h5 q hq) (hP.t q hq), Option.bind_some, mk_len]) (by
        have := on_len (P := P) (f := f)
        have := hP.n
        rw [List.length_append]; simp; omega)
      have hc : catG (encW (on P f)) ([(k : Int)] : List Int) = some (encW (on P f ++ [k])) := by
        rw [catG_ok (by rw [encW_len]; have := on_len (P := P) (f := f); have := hP.n; simp; omega)]
        unfold encW
        rw [List.map_append]
        rfl
      have hd : decide (((P.F : Int) - 1) < ((on P f ++ [k]).map (fun q => ((wk P q (f q).a).length : Int))).sum) = decide (P.F ≤ wants P f (on P f ++ [k])) := decide_eq_decide.mpr (by
        rw [sum_natI (g := fun q => (wk P q (f q).a).length)]
        unfold wants
        omega)
      by_cases c2 : P.F ≤ wants P f (on P f ++ [k])
      · have es : stops P f k = true := by unfold stops; rw [decide_eq_true c1, decide_eq_true c2]; rfl
        rw [es, if_pos rfl]
        have e2 : m_Plan_let_on_w2 (P.F : Int) x2 (L : Int) (encJ P f, (encW (k :: ws), t)) = some (.rt (encJ P f, (encW (k :: ws), (((L : Int) + 1), t)))) := by
          unfold m_Plan_let_on_w2
          dsimp only
          rw [g1, Option.bind_some, on_now_ok hP, Option.bind_some, if_pos hne, hc, Option.bind_some, hs, Option.bind_some]
          rw [if_pos (by dsimp only; rw [hd]; exact decide_eq_true c2)]
        rw [e2, Option.bind_some]
        rfl
      · have es : stops P f k = false := by unfold stops; rw [decide_eq_false c2, Bool.and_false]
        rw [es, if_neg (by decide)]
        have e2 : m_Plan_let_on_w2 (P.F : Int) x2 (L : Int) (encJ P f, (encW (k :: ws), t)) = some (.nx (encJ P (upd f k { f k with s := some (L + 1) }), (encW ws, t ++ [.two "on" (k : Int)]))) := by
          unfold m_Plan_let_on_w2
          dsimp only
          rw [g1, Option.bind_some, on_now_ok hP, Option.bind_some, if_pos hne, hc, Option.bind_some, hs, Option.bind_some]
          rw [if_neg (by dsimp only; rw [hd, decide_eq_false c2]; decide)]
          exact step rfl
        rw [e2, Option.bind_some]
        exact hrec
end Tu
namespace Tu
open J
def leL (p q : Int × Int) : Prop := p.1 < q.1 ∨ (p.1 = q.1 ∧ p.2 ≤ q.2)
theorem fold_bestG {α : Type} (g : α → α → Bool) (le : α → α → Prop) (hr : ∀ a, le a a) (ht : ∀ a b c, le a b → le b c → le a c) (h1 : ∀ a y, g y a = true → le a y) (h2 : ∀ a y, g y a = false → le y a) : ∀ (ts : List α) (t : α), (ts.foldl (fun a y => if g y a = true then y else a) t) ∈ t :: ts ∧ ∀ x ∈ t :: ts, le x (ts.foldl (fun a y => if g y a = true then y else a) t)
  | [], t => ⟨List.mem_cons_self, fun x hx => by
      rcases List.mem_cons.mp hx with rfl | hx
      · exact hr _
      · cases hx⟩
  | y :: ts, t => by
    rw [List.foldl_cons]
    by_cases c : g y t = true
    · rw [if_pos c]
      obtain ⟨a, b⟩ := fold_bestG g le hr ht h1 h2 ts y
      refine ⟨List.mem_cons_of_mem _ a, fun x hx => ?_⟩
      rcases List.mem_cons.mp hx with rfl | hx
      · exact ht _ _ _ (h1 _ _ c) (b y List.mem_cons_self)
      · exact b x hx
    · rw [if_neg c]
      obtain ⟨a, b⟩ := fold_bestG g le hr ht h1 h2 ts t
      refine ⟨?_, fun x hx => ?_⟩
      · rcases List.mem_cons.mp a with e | a
        · rw [e]; exact List.mem_cons_self
        · exact List.mem_cons_of_mem _ (List.mem_cons_of_mem _ a)
      · rcases List.mem_cons.mp hx with rfl | hx
        · exact b _ List.mem_cons_self
        · rcases List.mem_cons.mp hx with rfl | hx
          · exact ht _ _ _ (h2 _ _ (by simpa using c)) (b t List.mem_cons_self)
          · exact b x (List.mem_cons_of_mem _ hx)
theorem maxG_pair {xs : List (Int × Int)} (h : xs ≠ []) : ∃ r ∈ xs, maxG xs = some r ∧ ∀ x ∈ xs, leL x r := by
  cases xs with
  | nil => exact absurd rfl h
  | cons t ts =>
    have k := fold_bestG (fun (y a : Int × Int) => PySem.W.DatumOrd.lt a y) leL (fun a => .inr ⟨rfl, Int.le_refl _⟩) (fun a b c h1 h2 => by unfold leL at *; omega)
      (fun a y e => by
        have e : (if a.1 = y.1 then decide (a.2 < y.2) else decide (a.1 < y.1)) = true := e
        unfold leL
        split at e
        · have := of_decide_eq_true e; right; omega
        · have := of_decide_eq_true e; left; omega)
      (fun a y e => by
        have e : (if a.1 = y.1 then decide (a.2 < y.2) else decide (a.1 < y.1)) = false := e
        unfold leL
        split at e
        · have := of_decide_eq_false e; right; omega
        · have := of_decide_eq_false e; left; omega) ts t
    exact ⟨_, k.1, rfl, k.2⟩
def held (P : Pl) (f : Nat → Jo) : Nat := sumTo P.n fun k => (f k).h.length
def rq (P : Pl) (f : Nat → Jo) : Nat := sumTo P.n fun k => (f k).a
def onc (P : Pl) (f : Nat → Jo) : Nat := sumTo P.n fun k => if (f k).s.isSome = true then 1 else 0
def setJ (S : Sy) (k : Nat) (v : Jo) : Sy := { S with jb := upd S.jb k v }
/-- L lettings were; x: the job that asks -/
structure Inv (P : Pl) (L : Nat) (x : Option Nat) (S : Sy) : Prop where
  ale : ∀ k, k < P.n → (S.jb k).a ≤ (P.T k).length
  off : ∀ k, k < P.n → (S.jb k).s = none → (S.jb k).h = []
  dn : ∀ k, k < P.n → x ≠ some k → (S.jb k).a = (P.T k).length → (S.jb k).s = none
  nd : ∀ k, k < P.n → (S.jb k).h.Nodup
  hin : ∀ k, k < P.n → ∀ p ∈ (S.jb k).h, p ∈ wn (P.W k) (P.T k) (S.jb k).a
  wnd : S.wait.Nodup
  wt : ∀ k, k ∈ S.wait ↔ k < P.n ∧ (S.jb k).s = none ∧ (S.jb k).a < (P.T k).length
  sm : held P S.jb ≤ P.F
  tl : S.told.length + onc P S.jb ≤ 30 * (rq P S.jb + L)
theorem wait_len {P : Pl} {L : Nat} {x : Option Nat} {S : Sy} (h : Inv P L x S) : S.wait.length ≤ P.n := by
  have := List.Nodup.length_le_of_subset (l₂ := List.range P.n) h.wnd (fun k hk => List.mem_range.mpr ((h.wt k).mp hk).1)
  rwa [List.length_range] at this
theorem rq_le {P : Pl} {L : Nat} {x : Option Nat} {S : Sy} (hP : POk P) (h : Inv P L x S) : rq P S.jb ≤ 2400 := by
  have h1 : rq P S.jb ≤ sumTo P.n fun _ => 200 := sumTo_le fun k hk => Nat.le_trans (h.ale k hk) (hP.t k hk)
  rw [sumTo_const] at h1
  have := hP.n
  omega
theorem onc_le {P : Pl} {f : Nat → Jo} : onc P f ≤ P.n := by
  have h1 : onc P f ≤ sumTo P.n fun _ => 1 := sumTo_le fun k _ => by (try dsimp only); split <;> omega
  rw [sumTo_const] at h1
  omega
theorem held_len {P : Pl} {L : Nat} {x : Option Nat} {S : Sy} {k : Nat} (h : Inv P L x S) (hk : k < P.n) : (S.jb k).h.length ≤ P.F := Nat.le_trans (sumTo_at (g := fun k => (S.jb k).h.length) hk) h.sm
def others (P : Pl) (k : Nat) (f : Nat → Jo) : List (Int × Int) := ((on P f).filter fun q => decide (q ≠ k)).map fun q => ((((f q).s.getD 0 : Nat) : Int), (q : Int))
def pick (P : Pl) (k : Nat) (f : Nat → Jo) : Nat := ((maxG (others P k f)).map fun r => r.2.toNat).getD 0
def left (j : Jo) : Jo := { j with h := [], s := none }
def roomOnce (P : Pl) (k : Nat) (S : Sy) : Sy := ⟨upd S.jb (pick P k S.jb) (left (S.jb (pick P k S.jb))), S.wait ++ [pick P k S.jb], S.told ++ [.two "off" (pick P k S.jb : Int)]⟩
def full (P : Pl) (S : Sy) : Bool := decide (P.F ≤ held P S.jb)
def makeRoom (P : Pl) (k : Nat) (S : Sy) : Sy := loop (full P) (roomOnce P k) 13 S
theorem pick_ok {P : Pl} {k : Nat} {f : Nat → Jo} (h : ∃ q, q ∈ on P f ∧ q ≠ k) : pick P k f ∈ on P f ∧ pick P k f ≠ k ∧ maxG (others P k f) = some ((((f (pick P k f)).s.getD 0 : Nat) : Int), (pick P k f : Int)) ∧ ∀ q ∈ on P f, q ≠ k → leL ((((f q).s.getD 0 : Nat) : Int), (q : Int)) ((((f (pick P k f)).s.getD 0 : Nat) : Int), (pick P k f : Int)) := by
  obtain ⟨q0, h1, h2⟩ := h
  have hne : others P k f ≠ [] := fun e => by
    unfold others at e
    have := List.map_eq_nil_iff.mp e
    have := (List.filter_eq_nil_iff.mp this) q0 h1
    exact this (decide_eq_true h2)
  obtain ⟨r, hr, e, hm⟩ := maxG_pair hne
  obtain ⟨q, hq, rfl⟩ := List.mem_map.mp hr
  obtain ⟨hq1, hq2⟩ := List.mem_filter.mp hq
  have ep : pick P k f = q := by
    unfold pick
    rw [e]
    show ((q : Int)).toNat = q
    omega
  rw [ep]
  exact ⟨hq1, of_decide_eq_true hq2, e, fun z hz hzk => hm _ (List.mem_map.mpr ⟨z, List.mem_filter.mpr ⟨hz, decide_eq_true hzk⟩, rfl⟩)⟩
/-- where room lacks another job is on -/
theorem other_on {P : Pl} {L k : Nat} {S : Sy} (h : Inv P L (some k) S) (hk : k < P.n) (hf : full P S = true) (hl : (S.jb k).h.length < P.F) : ∃ q, q ∈ on P S.jb ∧ q ≠ k := by
  have hf := of_decide_eq_true hf
  have h1 : ∃ q, q < P.n ∧ 0 < (if q = k then 0 else (S.jb q).h.length) := sumTo_pos (by
    have := sumTo_upd (n := P.n) (k := k) (g := fun q => (S.jb q).h.length) (h := fun q => if q = k then 0 else (S.jb q).h.length) hk (fun q hq => by (try dsimp only); rw [if_neg hq])
    try dsimp only at this
    rw [if_pos rfl] at this
    have h9 : held P S.jb = sumTo P.n fun q => (S.jb q).h.length := rfl
    omega)
  obtain ⟨q, hq, h2⟩ := h1
  by_cases c : q = k
  · rw [if_pos c] at h2; omega
  · rw [if_neg c] at h2
    refine ⟨q, on_mem.mpr ⟨hq, ?_⟩, c⟩
    cases e : (S.jb q).s with
    | some _ => rfl
    | none => rw [h.off q hq e] at h2; simp at h2
theorem room_inv {P : Pl} {L k : Nat} {S : Sy} (hP : POk P) (h : Inv P L (some k) S) (hk : k < P.n) (hf : full P S = true) (hl : (S.jb k).h.length < P.F) :
    Inv P L (some k) (roomOnce P k S) ∧ (roomOnce P k S).jb k = S.jb k ∧ onc P (roomOnce P k S).jb + 1 = onc P S.jb ∧ rq P (roomOnce P k S).jb = rq P S.jb := by
  obtain ⟨h1, h2, h3, h4⟩ := pick_ok (other_on h hk hf hl)
  obtain ⟨q1, q2⟩ := on_mem.mp h1
  have e0 : ∀ q, q ≠ pick P k S.jb → (roomOnce P k S).jb q = S.jb q := fun q hq => upd_ne hq
  have e1 : (roomOnce P k S).jb (pick P k S.jb) = left (S.jb (pick P k S.jb)) := upd_same
  have ea : ∀ q, ((roomOnce P k S).jb q).a = (S.jb q).a := fun q => by
    by_cases c : q = pick P k S.jb
    · rw [c, e1]; rfl
    · rw [e0 q c]
  have er : rq P (roomOnce P k S).jb = rq P S.jb := sumTo_congr fun q _ => ea q
  have eo : onc P (roomOnce P k S).jb + 1 = onc P S.jb := by
    have := sumTo_upd (n := P.n) (k := pick P k S.jb) (g := fun q => if (S.jb q).s.isSome = true then 1 else 0) (h := fun q => if ((roomOnce P k S).jb q).s.isSome = true then 1 else 0) q1 (fun q hq => by (try dsimp only); rw [e0 q hq])
    try dsimp only at this
    rw [e1, if_pos q2] at this
    have h5 : (if (left (S.jb (pick P k S.jb))).s.isSome = true then 1 else 0) = 0 := rfl
    rw [h5] at this
    unfold onc
    omega
  have eh : held P (roomOnce P k S).jb ≤ held P S.jb := sumTo_le fun q _ => by
    try dsimp only
    by_cases c : q = pick P k S.jb
    · rw [c, e1]; exact Nat.zero_le _
    · rw [e0 q c]; exact Nat.le_refl _
  have hnw : pick P k S.jb ∉ S.wait := fun hw => by
    have := ((h.wt _).mp hw).2.1
    rw [this] at q2
    cases q2
  refine ⟨⟨fun q hq => by rw [ea]; exact h.ale q hq, fun q hq e => ?_, fun q hq hx e => ?_, fun q hq => ?_, fun q hq p hp => ?_, ?_, fun q => ?_, Nat.le_trans eh h.sm, ?_⟩, e0 k (Ne.symm h2), eo, er⟩
  · by_cases c : q = pick P k S.jb
    · rw [c, e1]; rfl
    · rw [e0 q c] at e ⊢; exact h.off q hq e
  · by_cases c : q = pick P k S.jb
    · rw [c, e1]; rfl
    · rw [e0 q c] at e ⊢; exact h.dn q hq hx e
  · by_cases c : q = pick P k S.jb
    · rw [c, e1]; exact List.nodup_nil
    · rw [e0 q c]; exact h.nd q hq
  · by_cases c : q = pick P k S.jb
    · rw [c, e1] at hp; cases hp
    · rw [e0 q c] at hp ⊢; exact h.hin q hq p hp
  · exact List.nodup_append.mpr ⟨h.wnd, by simp, fun a ha b hb e => hnw (by rw [List.mem_singleton.mp hb] at e; exact e ▸ ha)⟩
  · show q ∈ S.wait ++ [pick P k S.jb] ↔ _
    rw [List.mem_append, List.mem_singleton, ea]
    by_cases c : q = pick P k S.jb
    · rw [c, e1]
      refine ⟨fun _ => ⟨q1, rfl, ?_⟩, fun _ => .inr rfl⟩
      have := h.ale _ q1
      have h6 : (S.jb (pick P k S.jb)).a ≠ (P.T (pick P k S.jb)).length := fun e => by
        have := h.dn _ q1 (fun e => h2 (Option.some.inj e).symm) e
        rw [this] at q2
        cases q2
      omega
    · rw [e0 q c, h.wt q]
      exact ⟨fun z => z.elim id fun z => absurd z c, .inl⟩
  · show (S.told ++ [_]).length + _ ≤ _
    have := h.tl
    rw [List.length_append, er]
    simp only [List.length_cons, List.length_nil]
    omega
def e3 (P : Pl) (S : Sy) : List JT × (List Int × List Hap) := (encJ P S.jb, (encW S.wait, S.told))
theorem full_ok {P : Pl} {S : Sy} (hP : POk P) : m_Plan_make_room_t2 (P.F : Int) (e3 P S) = some (full P S) := by
  unfold m_Plan_make_room_t2 e3
  try dsimp only
  rw [encJ_len, rng_enc, lcW_map (g := fun q => ((S.jb q).h.length : Int)) (fun q hq => ?_) (by have := hP.n; rw [List.length_range]; omega)]
  · rw [Option.bind_some]
    try dsimp only
    rw [sumTo_int P.n fun q => (S.jb q).h.length]
    exact congrArg some (decide_eq_decide.mpr (by unfold held; omega))
  · unfold m_Plan_make_room_c0
    try dsimp only
    rw [gxN_enc (List.mem_range.mp hq), Option.bind_some]
    unfold toJ
    try dsimp only
    rw [mk_len]
theorem room_ok {P : Pl} {L k : Nat} {S : Sy} {x2 x4 : Int} (hP : POk P) (h : Inv P L (some k) S) (hL : L ≤ 3000) (hk : k < P.n) (hf : full P S = true) (hl : (S.jb k).h.length < P.F) : m_Plan_make_room_w3 (k : Int) (P.F : Int) x2 x4 (e3 P S) = some (e3 P (roomOnce P k S)) := by
  obtain ⟨h1, h2, h3, h4⟩ := pick_ok (other_on h hk hf hl)
  obtain ⟨q1, q2⟩ := on_mem.mp h1
  have hw := wait_len h
  have hn := hP.n
  have hr := rq_le hP h
  have ht := h.tl
  unfold m_Plan_make_room_w3 e3
  try dsimp only
  rw [on_now_ok hP, Option.bind_some]
  rw [lcW_fm (g := fun q => if decide (q ≠ k) = true then some ((((S.jb q).s.getD 0 : Nat) : Int), (q : Int)) else none) (fun q hq => ?_) (by have := on_len (P := P) (f := S.jb); omega), Option.bind_some]
  · have e : (on P S.jb).filterMap (fun q => if decide (q ≠ k) = true then some ((((S.jb q).s.getD 0 : Nat) : Int), (q : Int)) else none) = others P k S.jb := by
      unfold others
      induction on P S.jb with
      | nil => rfl
      | cons x l ih =>
        rw [List.filterMap_cons, List.filter_cons, ih]
        by_cases c : decide (x ≠ k) = true
        · rw [if_pos c, if_pos c]; rfl
        · rw [if_neg c, if_neg c]
    try dsimp only
    rw [e, h3, Option.bind_some]
    try dsimp only
    have eg : gx (rng 0 (encJ P S.jb).length) ((pick P k S.jb : Nat) : Int) = some ((pick P k S.jb : Nat) : Int) := by
      rw [encJ_len, rng_enc, gx_nat (by omega), Int.toNat_natCast]
      unfold encW
      rw [List.getElem?_map, List.getElem?_range q1]
      rfl
    rw [eg, Option.bind_some, gxN_enc q1, Option.bind_some]
    unfold m_Job_leave
    rw [Option.bind_some, psh_ok (by rw [encW_len]; omega), Option.bind_some]
    have e9 : List.set (encJ P S.jb) ((pick P k S.jb : Nat) : Int).toNat (((toJ P (pick P k S.jb) (S.jb (pick P k S.jb))).1, ((toJ P (pick P k S.jb) (S.jb (pick P k S.jb))).2.1, ((toJ P (pick P k S.jb) (S.jb (pick P k S.jb))).2.2.1, ((toJ P (pick P k S.jb) (S.jb (pick P k S.jb))).2.2.2.1, (([] : List (Int × Bool)), ((none : Option Int), ((toJ P (pick P k S.jb) (S.jb (pick P k S.jb))).2.2.2.2.2.2.1, (toJ P (pick P k S.jb) (S.jb (pick P k S.jb))).2.2.2.2.2.2.2))))))) : JT) = encJ P (upd S.jb (pick P k S.jb) (left (S.jb (pick P k S.jb)))) := set_enc (v := left (S.jb (pick P k S.jb)))
    try dsimp only
    rw [e9, gxN_enc q1, Option.bind_some, psh_ok (by omega), Option.bind_some]
    unfold roomOnce encW
    rw [List.map_append]
    rfl
  · obtain ⟨z1, z2⟩ := on_mem.mp hq
    unfold m_Plan_make_room_c1
    try dsimp only
    rw [gxN_enc z1, Option.bind_some, gxN_enc hk, Option.bind_some]
    have ed : decide ((toJ P q (S.jb q)).1 ≠ (toJ P k (S.jb k)).1) = decide (q ≠ k) := decide_eq_decide.mpr (by unfold toJ; try dsimp only; omega)
    rw [ed]
    by_cases c : decide (q ≠ k) = true
    · rw [if_pos c, if_pos c]
      cases es : (S.jb q).s with
      | none => rw [es] at z2; cases z2
      | some v =>
        unfold toJ
        try dsimp only
        rw [es]
        rfl
    · rw [if_neg c, if_neg c]
theorem make_room_ok {P : Pl} {L k : Nat} {S : Sy} {x2 x4 : Int} (hP : POk P) (h : Inv P L (some k) S) (hL : L ≤ 3000) (hk : k < P.n) (hl : (S.jb k).h.length < P.F) :
    m_Plan_make_room (k : Int) (encJ P S.jb) (P.F : Int) x2 (encW S.wait) x4 S.told = some (e3 P (makeRoom P k S)) ∧ Inv P L (some k) (makeRoom P k S) ∧ (makeRoom P k S).jb k = S.jb k ∧ held P (makeRoom P k S).jb < P.F ∧ rq P (makeRoom P k S).jb = rq P S.jb := by
  have hn := hP.n
  have ho := onc_le (P := P) (f := S.jb)
  have I : ∀ s, (Inv P L (some k) s ∧ s.jb k = S.jb k ∧ rq P s.jb = rq P S.jb) → full P s = true → (Inv P L (some k) (roomOnce P k s) ∧ (roomOnce P k s).jb k = S.jb k ∧ rq P (roomOnce P k s).jb = rq P S.jb) ∧ onc P (roomOnce P k s).jb < onc P s.jb := fun s hs hf => by
    obtain ⟨a, b, c, d⟩ := room_inv hP hs.1 hk hf (by rw [hs.2.1]; exact hl)
    exact ⟨⟨a, b.trans hs.2.1, d.trans hs.2.2⟩, by omega⟩
  have w := while_loop (e3 P) (c := m_Plan_make_room_t2 (P.F : Int)) (f := m_Plan_make_room_w3 (k : Int) (P.F : Int) x2 x4) (c' := full P) (f' := roomOnce P k) (fun s => Inv P L (some k) s ∧ s.jb k = S.jb k ∧ rq P s.jb = rq P S.jb) (fun s => onc P s.jb) (fun s _ => full_ok hP) (fun s hs hf => by
    obtain ⟨a, b⟩ := I s hs hf
    exact ⟨room_ok hP hs.1 hL hk hf (by rw [hs.2.1]; exact hl), a, b⟩) 13 1000000 S ⟨h, rfl, rfl⟩ (by (try dsimp only); omega) (by (try dsimp only); omega)
  obtain ⟨⟨a, b, c⟩, d, _⟩ := loop_inv (c := full P) (f := roomOnce P k) (fun s => Inv P L (some k) s ∧ s.jb k = S.jb k ∧ rq P s.jb = rq P S.jb) (fun s => onc P s.jb) I 13 S ⟨h, rfl, rfl⟩ (by (try dsimp only); omega)
  refine ⟨?_, a, b, ?_, c⟩
  · unfold m_Plan_make_room
    have w : whileM (m_Plan_make_room_t2 (P.F : Int)) (m_Plan_make_room_w3 (k : Int) (P.F : Int) x2 x4) 1000000 (encJ P S.jb, (encW S.wait, S.told)) = _ := w
    rw [w]
    rfl
  · have : ¬ P.F ≤ held P (makeRoom P k S).jb := of_decide_eq_false d
    omega
end Tu
namespace Tu
open J
def pageAt (P : Pl) (k : Nat) (j : Jo) : Int := pg (P.T k) j.a
def ask (P : Pl) (k : Nat) (j : Jo) : Jo := { j with a := j.a + 1, h := j.h.filter fun p => decide (p ∈ wk P k (j.a + 1)) }
def word (P : Pl) (k : Nat) (j : Jo) : PySem.Str := if pageAt P k j ∈ (ask P k j).h then "hit" else if pageAt P k j ∈ wk P k j.a then "back" else "own"
def gets (j : Jo) (w : PySem.Str) (p : Int) : Jo := { j with h := j.h ++ [p], o := if w = ("own" : PySem.Str) then j.o + 1 else j.o, b := if w = ("own" : PySem.Str) then j.b else j.b + 1 }
def asked (P : Pl) (k : Nat) (S : Sy) : Sy := setJ S k (ask P k (S.jb k))
def met (P : Pl) (k : Nat) (S : Sy) : Sy := if word P k (S.jb k) = "hit" then asked P k S else setJ (makeRoom P k (asked P k S)) k (gets ((makeRoom P k (asked P k S)).jb k) (word P k (S.jb k)) (pageAt P k (S.jb k)))
def says (S : Sy) (e : Hap) : Sy := { S with told := S.told ++ [e] }
def ended (P : Pl) (k : Nat) (S : Sy) : Sy := if (S.jb k).a = (P.T k).length then says (setJ S k (left (S.jb k))) (.two "done" (k : Int)) else S
def request (P : Pl) (k : Nat) (S : Sy) : Sy := ended P k (says (met P k S) (.three (word P k (S.jb k)) (k : Int) (pageAt P k (S.jb k))))
theorem upd_upd {f : Nat → Jo} {k : Nat} {v w : Jo} : upd (upd f k v) k w = upd f k w := funext fun q => by
  unfold upd
  split <;> rfl
theorem word_cases (P : Pl) (k : Nat) (j : Jo) : word P k j = "hit" ∨ word P k j = "back" ∨ word P k j = "own" := by
  unfold word
  split
  · exact .inl rfl
  · split
    · exact .inr (.inl rfl)
    · exact .inr (.inr rfl)
theorem hit_iff {P : Pl} {k : Nat} {j : Jo} : word P k j = "hit" ↔ pageAt P k j ∈ (ask P k j).h := by
  unfold word
  by_cases c : pageAt P k j ∈ (ask P k j).h
  · rw [if_pos c]; exact ⟨fun _ => c, fun _ => rfl⟩
  · rw [if_neg c]
    refine ⟨fun h => ?_, fun h => absurd h c⟩
    split at h <;> exact absurd h (by decide)
theorem own_iff {P : Pl} {k : Nat} {j : Jo} (hsub : pageAt P k j ∈ (ask P k j).h → pageAt P k j ∈ wk P k j.a) : word P k j = "own" ↔ pageAt P k j ∉ wk P k j.a := by
  unfold word
  by_cases c : pageAt P k j ∈ (ask P k j).h
  · rw [if_pos c]; exact ⟨fun h => absurd h (by decide), fun h => absurd (hsub c) h⟩
  · rw [if_neg c]
    by_cases d : pageAt P k j ∈ wk P k j.a
    · rw [if_pos d]; exact ⟨fun h => absurd h (by decide), fun h => absurd d h⟩
    · rw [if_neg d]; exact ⟨fun _ => d, fun _ => rfl⟩
theorem filt_mk {l : List Int} {p : Int → Bool} : l.filterMap (fun x => if p x = true then some (x, true) else none) = mk (l.filter p) := by
  induction l with
  | nil => rfl
  | cons x l ih =>
    rw [List.filterMap_cons, List.filter_cons, ih]
    by_cases c : p x = true
    · rw [if_pos c, if_pos c]; rfl
    · rw [if_neg c, if_neg c]
theorem ask_ok {P : Pl} {k : Nat} {j : Jo} (ha : j.a < (P.T k).length) (hl : (P.T k).length ≤ 200) (hn : j.h.Nodup) (hh : j.h.length ≤ 1000000) :
    m_Job_ask (toJ P k j).1 (toJ P k j).2.1 (toJ P k j).2.2.1 (toJ P k j).2.2.2.1 (toJ P k j).2.2.2.2.1 (toJ P k j).2.2.2.2.2.1 (toJ P k j).2.2.2.2.2.2.1 (toJ P k j).2.2.2.2.2.2.2 = some ((pageAt P k j, word P k j), (((j.a + 1 : Nat) : Int), mk (ask P k j).h)) := by
  unfold m_Job_ask toJ
  try dsimp only
  rw [gx_nat (by omega), Int.toNat_natCast, pg_at ha, Option.bind_some, wk_ok (by omega) hl, Option.bind_some, wk_okS ha hl, Option.bind_some, mk_keys]
  rw [lcM_fm (g := fun p => if (decide (p ∈ wk P k (j.a + 1))) = true then some (p, true) else none) (fun p _ => by
    unfold m_Job_ask_c0
    rw [mk_has]
    split <;> rfl) (by omega), Option.bind_some]
  try dsimp only
  rw [filt_mk, uq_mk, uq_self (List.Nodup.sublist List.filter_sublist hn), mk_has, mk_has]
  unfold word
  by_cases c : pageAt P k j ∈ (ask P k j).h
  · rw [if_pos c, if_pos (show decide (pg (P.T k) j.a ∈ j.h.filter fun p => decide (p ∈ wk P k (j.a + 1))) = true from decide_eq_true c)]
    rfl
  · rw [if_neg c, if_neg (show ¬ decide (pg (P.T k) j.a ∈ j.h.filter fun p => decide (p ∈ wk P k (j.a + 1))) = true from fun h => c (of_decide_eq_true h))]
    unfold ifM
    by_cases d : pageAt P k j ∈ wk P k j.a
    · rw [if_pos d, if_pos (show decide (pg (P.T k) j.a ∈ wk P k j.a) = true from decide_eq_true d)]; rfl
    · rw [if_neg d, if_neg (show ¬ decide (pg (P.T k) j.a ∈ wk P k j.a) = true from fun h => d (of_decide_eq_true h))]; rfl
/-- behind what is asked for -/
theorem ask_in {P : Pl} {k : Nat} {a : Nat} (h : a < (P.T k).length) (hw : 1 ≤ P.W k) : pg (P.T k) a ∈ wn (P.W k) (P.T k) (a + 1) := by
  unfold wn
  rw [take_rev h]
  obtain ⟨v, hv⟩ : ∃ v, P.W k = v + 1 := ⟨P.W k - 1, by omega⟩
  rw [hv]
  exact List.mem_cons_self
theorem asked_inv {P : Pl} {L k : Nat} {S : Sy} (hP : POk P) (h : Inv P L none S) (hk : k < P.n) (hs : (S.jb k).s.isSome = true) : (S.jb k).a < (P.T k).length ∧ Inv P L (some k) (asked P k S) ∧ rq P (asked P k S).jb = rq P S.jb + 1 ∧ (S.told.length + onc P (asked P k S).jb ≤ 30 * (rq P S.jb + L)) := by
  have hlt : (S.jb k).a < (P.T k).length := by
    have h1 := h.ale k hk
    have h2 : (S.jb k).a ≠ (P.T k).length := fun e => by
      have := h.dn k hk (by simp) e
      rw [this] at hs
      cases hs
    omega
  have e0 : ∀ q, q ≠ k → (asked P k S).jb q = S.jb q := fun q hq => upd_ne hq
  have e1 : (asked P k S).jb k = ask P k (S.jb k) := upd_same
  have er : rq P (asked P k S).jb = rq P S.jb + 1 := by
    have := sumTo_upd (n := P.n) (k := k) (g := fun q => (S.jb q).a) (h := fun q => ((asked P k S).jb q).a) hk (fun q hq => by (try dsimp only); rw [e0 q hq])
    try dsimp only at this
    rw [e1] at this
    have h5 : (ask P k (S.jb k)).a = (S.jb k).a + 1 := rfl
    rw [h5] at this
    unfold rq
    omega
  have eo : onc P (asked P k S).jb = onc P S.jb := sumTo_congr fun q _ => by
    by_cases c : q = k
    · rw [c, e1]; rfl
    · rw [e0 q c]
  refine ⟨hlt, ⟨fun q hq => ?_, fun q hq e => ?_, fun q hq hx e => ?_, fun q hq => ?_, fun q hq p hp => ?_, h.wnd, fun q => ?_, ?_, ?_⟩, er, by rw [eo]; exact h.tl⟩
  · by_cases c : q = k
    · rw [c, e1]; exact hlt
    · rw [e0 q c]; exact h.ale q hq
  · by_cases c : q = k
    · rw [c, e1] at e
      have e : (S.jb k).s = none := e
      rw [e] at hs; cases hs
    · rw [e0 q c] at e ⊢; exact h.off q hq e
  · by_cases c : q = k
    · exact absurd (congrArg some c.symm) hx
    · rw [e0 q c] at e ⊢; exact h.dn q hq (by simp) e
  · by_cases c : q = k
    · rw [c, e1]; exact List.Nodup.sublist List.filter_sublist (h.nd k hk)
    · rw [e0 q c]; exact h.nd q hq
  · by_cases c : q = k
    · rw [c, e1] at hp ⊢
      have := (List.mem_filter.mp hp).2
      exact wk_mem.mp (of_decide_eq_true this)
    · rw [e0 q c] at hp ⊢; exact h.hin q hq p hp
  · by_cases c : q = k
    · rw [c, e1]
      refine ⟨fun z => ?_, fun z => ?_⟩
      · have := ((h.wt k).mp z).2.1
        rw [this] at hs; cases hs
      · have e : (S.jb k).s = none := z.2.1
        rw [e] at hs; cases hs
    · rw [e0 q c]; exact h.wt q
  · refine Nat.le_trans (sumTo_le fun q _ => ?_) h.sm
    by_cases c : q = k
    · rw [c, e1]; exact List.length_filter_le _ _
    · rw [e0 q c]; exact Nat.le_refl _
  · have := h.tl
    show S.told.length + _ ≤ _
    rw [eo, er]
    omega
theorem asked_less {P : Pl} {L k : Nat} {S : Sy} (hP : POk P) (h : Inv P L none S) (hk : k < P.n) (hs : (S.jb k).s.isSome = true) (hw : word P k (S.jb k) ≠ "hit") : ((asked P k S).jb k).h.length < P.F := by
  obtain ⟨hlt, hi, _⟩ := asked_inv hP h hk hs
  have e1 : (asked P k S).jb k = ask P k (S.jb k) := upd_same
  have hno : pageAt P k (S.jb k) ∉ (ask P k (S.jb k)).h := fun c => hw (hit_iff.mpr c)
  have hsub : ∀ p ∈ pageAt P k (S.jb k) :: (ask P k (S.jb k)).h, p ∈ wk P k ((S.jb k).a + 1) := fun p hp => by
    rcases List.mem_cons.mp hp with rfl | hp
    · exact wk_mem.mpr (ask_in hlt (hP.w k hk).1)
    · exact of_decide_eq_true (List.mem_filter.mp hp).2
  have := List.Nodup.length_le_of_subset (List.nodup_cons.mpr ⟨hno, List.Nodup.sublist List.filter_sublist (h.nd k hk)⟩) hsub
  rw [List.length_cons] at this
  have h2 := wk_len P k ((S.jb k).a + 1)
  have h3 := (hP.w k hk).2
  rw [e1]
  exact Nat.lt_of_lt_of_le this (Nat.le_trans h2 h3)
theorem met_inv {P : Pl} {L k : Nat} {S : Sy} (hP : POk P) (hL : L ≤ 3000) (h : Inv P L none S) (hk : k < P.n) (hs : (S.jb k).s.isSome = true) : Inv P L (some k) (met P k S) ∧ rq P (met P k S).jb = rq P S.jb + 1 ∧ ((met P k S).jb k).a = (S.jb k).a + 1 ∧ ((met P k S).jb k).s = (S.jb k).s ∧ ((met P k S).told.length + onc P (met P k S).jb + 30 ≤ 30 * (rq P (met P k S).jb + L)) := by
  obtain ⟨hlt, hi, hr, ht⟩ := asked_inv hP h hk hs
  have e1 : (asked P k S).jb k = ask P k (S.jb k) := upd_same
  unfold met
  by_cases c : word P k (S.jb k) = "hit"
  · rw [if_pos c]
    refine ⟨hi, hr, by rw [e1]; rfl, by rw [e1]; rfl, ?_⟩
    have : (asked P k S).told = S.told := rfl
    rw [hr, this]
    omega
  · rw [if_neg c]
    have hl := asked_less hP h hk hs c
    obtain ⟨_, ri, rk, rh, rr⟩ := make_room_ok (x2 := 0) (x4 := 0) hP hi hL hk hl
    have e2 : (makeRoom P k (asked P k S)).jb k = ask P k (S.jb k) := rk.trans e1
    generalize hR : makeRoom P k (asked P k S) = R at *
    rw [e2]
    have hno : pageAt P k (S.jb k) ∉ (ask P k (S.jb k)).h := fun d => c (hit_iff.mpr d)
    have f0 : ∀ q, q ≠ k → (setJ R k (gets (ask P k (S.jb k)) (word P k (S.jb k)) (pageAt P k (S.jb k)))).jb q = R.jb q := fun q hq => upd_ne hq
    have f1 : (setJ R k (gets (ask P k (S.jb k)) (word P k (S.jb k)) (pageAt P k (S.jb k)))).jb k = gets (ask P k (S.jb k)) (word P k (S.jb k)) (pageAt P k (S.jb k)) := upd_same
    have fs : ∀ q, ((setJ R k (gets (ask P k (S.jb k)) (word P k (S.jb k)) (pageAt P k (S.jb k)))).jb q).s = (R.jb q).s := fun q => by
      by_cases d : q = k
      · rw [d, f1, e2]; rfl
      · rw [f0 q d]
    have fa : ∀ q, ((setJ R k (gets (ask P k (S.jb k)) (word P k (S.jb k)) (pageAt P k (S.jb k)))).jb q).a = (R.jb q).a := fun q => by
      by_cases d : q = k
      · rw [d, f1, e2]; rfl
      · rw [f0 q d]
    have gr : rq P (setJ R k (gets (ask P k (S.jb k)) (word P k (S.jb k)) (pageAt P k (S.jb k)))).jb = rq P R.jb := sumTo_congr fun q _ => fa q
    have go : onc P (setJ R k (gets (ask P k (S.jb k)) (word P k (S.jb k)) (pageAt P k (S.jb k)))).jb = onc P R.jb := sumTo_congr fun q _ => by rw [fs q]
    have gh : held P (setJ R k (gets (ask P k (S.jb k)) (word P k (S.jb k)) (pageAt P k (S.jb k)))).jb = held P R.jb + 1 := by
      have := sumTo_upd (n := P.n) (k := k) (g := fun q => (R.jb q).h.length) (h := fun q => ((setJ R k (gets (ask P k (S.jb k)) (word P k (S.jb k)) (pageAt P k (S.jb k)))).jb q).h.length) hk (fun q hq => by (try dsimp only); rw [f0 q hq])
      try dsimp only at this
      rw [f1, e2] at this
      have h5 : (gets (ask P k (S.jb k)) (word P k (S.jb k)) (pageAt P k (S.jb k))).h.length = (ask P k (S.jb k)).h.length + 1 := by
        unfold gets
        rw [List.length_append]
        rfl
      rw [h5] at this
      unfold held
      omega
    have rt := ri.tl
    -- told and who is on: as many as ahead
    have key : R.told.length + onc P R.jb = (asked P k S).told.length + onc P (asked P k S).jb := by
      have I : ∀ s, ((Inv P L (some k) s ∧ s.jb k = ask P k (S.jb k)) ∧ s.told.length + onc P s.jb = (asked P k S).told.length + onc P (asked P k S).jb) → full P s = true → ((Inv P L (some k) (roomOnce P k s) ∧ (roomOnce P k s).jb k = ask P k (S.jb k)) ∧ (roomOnce P k s).told.length + onc P (roomOnce P k s).jb = (asked P k S).told.length + onc P (asked P k S).jb) ∧ onc P (roomOnce P k s).jb < onc P s.jb := fun s hs hf => by
        obtain ⟨a, b, c, d⟩ := room_inv hP hs.1.1 hk hf (by rw [hs.1.2, ← e1]; exact hl)
        refine ⟨⟨⟨a, b.trans hs.1.2⟩, ?_⟩, by omega⟩
        have : (roomOnce P k s).told.length = s.told.length + 1 := by
          unfold roomOnce
          rw [List.length_append]
          rfl
        have := hs.2
        omega
      have ho := onc_le (P := P) (f := (asked P k S).jb)
      have hn := hP.n
      have := (loop_inv (c := full P) (f := roomOnce P k) (fun s => (Inv P L (some k) s ∧ s.jb k = ask P k (S.jb k)) ∧ s.told.length + onc P s.jb = (asked P k S).told.length + onc P (asked P k S).jb) (fun s => onc P s.jb) I 13 (asked P k S) ⟨⟨hi, e1⟩, rfl⟩ (by (try dsimp only); omega)).1.2
      have hR2 : loop (full P) (roomOnce P k) 13 (asked P k S) = R := hR
      rw [hR2] at this
      exact this
    refine ⟨⟨fun q hq => by rw [fa]; exact ri.ale q hq, fun q hq e => ?_, fun q hq hx e => ?_, fun q hq => ?_, fun q hq p hp => ?_, ri.wnd, fun q => by rw [fs, fa]; exact ri.wt q, by rw [gh]; exact rh, ?_⟩, by rw [gr, rr, hr], by rw [f1]; rfl, by rw [f1]; rfl, ?_⟩
    · by_cases d : q = k
      · rw [d, f1] at e
        have e : (S.jb k).s = none := e
        rw [e] at hs; cases hs
      · rw [f0 q d] at e ⊢; exact ri.off q hq e
    · rw [fa] at e; rw [fs]; exact ri.dn q hq hx e
    · by_cases d : q = k
      · rw [d, f1]
        have hn := ri.nd k hk
        rw [e2] at hn
        exact List.nodup_append.mpr ⟨hn, by simp, fun a ha b hb e => hno (by rw [List.mem_singleton.mp hb] at e; exact e ▸ ha)⟩
      · rw [f0 q d]; exact ri.nd q hq
    · by_cases d : q = k
      · rw [d, f1] at hp ⊢
        rcases List.mem_append.mp hp with z | z
        · have := ri.hin k hk p (by rw [e2]; exact z)
          rw [e2] at this
          exact this
        · rw [List.mem_singleton.mp z]
          exact ask_in hlt (hP.w k hk).1
      · rw [f0 q d] at hp ⊢; exact ri.hin q hq p hp
    · show R.told.length + _ ≤ _
      rw [go, gr]
      exact rt
    · show R.told.length + _ + 30 ≤ _
      rw [go, gr, rr, key, hr]
      have : (asked P k S).told = S.told := rfl
      rw [this]
      omega
theorem request_inv {P : Pl} {L k : Nat} {S : Sy} (hP : POk P) (hL : L ≤ 3000) (h : Inv P L none S) (hk : k < P.n) (hs : (S.jb k).s.isSome = true) : Inv P L none (request P k S) ∧ rq P (request P k S).jb = rq P S.jb + 1 := by
  obtain ⟨mi, mr, ma, ms, mt⟩ := met_inv hP hL h hk hs
  unfold request
  generalize hM : met P k S = M at *
  have ni := mi.ale k hk
  unfold ended
  by_cases c : ((says M (.three (word P k (S.jb k)) (k : Int) (pageAt P k (S.jb k)))).jb k).a = (P.T k).length
  · rw [if_pos c]
    have c : (M.jb k).a = (P.T k).length := c
    have f0 : ∀ q, q ≠ k → upd M.jb k (left (M.jb k)) q = M.jb q := fun q hq => upd_ne hq
    have f1 : upd M.jb k (left (M.jb k)) k = left (M.jb k) := upd_same
    have fa : ∀ q, (upd M.jb k (left (M.jb k)) q).a = (M.jb q).a := fun q => by
      by_cases d : q = k
      · rw [d, f1]; rfl
      · rw [f0 q d]
    have gr : rq P (upd M.jb k (left (M.jb k))) = rq P M.jb := sumTo_congr fun q _ => fa q
    refine ⟨⟨fun q hq => by show (upd M.jb k (left (M.jb k)) q).a ≤ _; rw [fa]; exact mi.ale q hq, fun q hq e => ?_, fun q hq hx e => ?_, fun q hq => ?_, fun q hq p hp => ?_, mi.wnd, fun q => ?_, ?_, ?_⟩, by show rq P (upd M.jb k (left (M.jb k))) = _; rw [gr, mr]⟩
    · show (upd M.jb k (left (M.jb k)) q).h = []
      have e : (upd M.jb k (left (M.jb k)) q).s = none := e
      by_cases d : q = k
      · rw [d, f1]; rfl
      · rw [f0 q d] at e ⊢; exact mi.off q hq e
    · show (upd M.jb k (left (M.jb k)) q).s = none
      have e : (upd M.jb k (left (M.jb k)) q).a = (P.T q).length := e
      by_cases d : q = k
      · rw [d, f1]; rfl
      · rw [f0 q d] at e ⊢; exact mi.dn q hq (fun z => d (Option.some.inj z).symm) e
    · show (upd M.jb k (left (M.jb k)) q).h.Nodup
      by_cases d : q = k
      · rw [d, f1]; exact List.nodup_nil
      · rw [f0 q d]; exact mi.nd q hq
    · show p ∈ wn (P.W q) (P.T q) (upd M.jb k (left (M.jb k)) q).a
      have hp : p ∈ (upd M.jb k (left (M.jb k)) q).h := hp
      by_cases d : q = k
      · rw [d, f1] at hp; cases hp
      · rw [f0 q d] at hp ⊢; exact mi.hin q hq p hp
    · show q ∈ M.wait ↔ q < P.n ∧ (upd M.jb k (left (M.jb k)) q).s = none ∧ (upd M.jb k (left (M.jb k)) q).a < _
      rw [fa]
      by_cases d : q = k
      · rw [d, f1]
        refine ⟨fun z => ?_, fun z => ?_⟩
        · have := ((mi.wt k).mp z).2.1
          rw [ms] at this; rw [this] at hs; cases hs
        · omega
      · rw [f0 q d]; exact mi.wt q
    · refine Nat.le_trans (sumTo_le fun q _ => ?_) mi.sm
      show (upd M.jb k (left (M.jb k)) q).h.length ≤ _
      by_cases d : q = k
      · rw [d, f1]; exact Nat.zero_le _
      · rw [f0 q d]; exact Nat.le_refl _
    · show ((M.told ++ [_]) ++ [_]).length + onc P (upd M.jb k (left (M.jb k))) ≤ 30 * (rq P (upd M.jb k (left (M.jb k))) + L)
      have go : onc P (upd M.jb k (left (M.jb k))) ≤ onc P M.jb := sumTo_le fun q _ => by
        by_cases d : q = k
        · rw [d, f1]; exact Nat.zero_le _
        · rw [f0 q d]; exact Nat.le_refl _
      rw [gr, List.length_append, List.length_append]
      simp only [List.length_cons, List.length_nil]
      omega
  · rw [if_neg c]
    have c : (M.jb k).a ≠ (P.T k).length := c
    refine ⟨⟨mi.ale, mi.off, fun q hq hx e => ?_, mi.nd, mi.hin, mi.wnd, mi.wt, mi.sm, ?_⟩, mr⟩
    · by_cases d : q = k
      · rw [d] at e; exact absurd e c
      · exact mi.dn q hq (fun z => d (Option.some.inj z).symm) e
    · show (M.told ++ [_]).length + onc P M.jb ≤ 30 * (rq P M.jb + L)
      rw [List.length_append]
      simp only [List.length_cons, List.length_nil]
      omega
end Tu
namespace Tu
open J
theorem dput_new {h : List Int} {p : Int} (hn : p ∉ h) (hl : h.length < 16777216) : dputG (mk h) p true = some (mk (h ++ [p])) := by
  unfold dputG
  rw [if_pos (by rw [mk_len]; exact hl)]
  unfold dput
  rw [if_neg]
  · unfold mk; rw [List.map_append]; rfl
  · intro c
    obtain ⟨z, hz, e⟩ := List.any_eq_true.mp c
    obtain ⟨q, hq, rfl⟩ := List.mem_map.mp hz
    exact hn ((show q = p from of_decide_eq_true e) ▸ hq)
theorem told_lt {P : Pl} {L : Nat} {x : Option Nat} {S : Sy} (hP : POk P) (hL : L ≤ 3000) (h : Inv P L x S) : S.told.length ≤ 200000 := by
  have := rq_le hP h
  have := h.tl
  omega
theorem request_ok {P : Pl} {L k : Nat} {S : Sy} {x2 x4 : Int} (hP : POk P) (hL : L ≤ 3000) (h : Inv P L none S) (hk : k < P.n) (hs : (S.jb k).s.isSome = true) : m_Plan_request (k : Int) (encJ P S.jb) (P.F : Int) x2 (encW S.wait) x4 S.told = some (e3 P (request P k S)) := by
  obtain ⟨hlt, hi, hr, ht⟩ := asked_inv hP h hk hs
  have hlen : (S.jb k).h.length ≤ 1000000 := Nat.le_trans (held_len h hk) hP.f.2
  obtain ⟨mi, mr, ma, ms, mt⟩ := met_inv hP hL h hk hs
  have mtl := told_lt hP hL mi
  have e9 : List.set (encJ P S.jb) ((k : Int)).toNat (((toJ P k (S.jb k)).1, ((toJ P k (S.jb k)).2.1, ((toJ P k (S.jb k)).2.2.1, ((((S.jb k).a + 1 : Nat) : Int), (mk (ask P k (S.jb k)).h, ((toJ P k (S.jb k)).2.2.2.2.2.1, ((toJ P k (S.jb k)).2.2.2.2.2.2.1, (toJ P k (S.jb k)).2.2.2.2.2.2.2))))))) : JT) = encJ P (asked P k S).jb := set_enc (v := ask P k (S.jb k))
  unfold m_Plan_request
  rw [gxN_enc hk, Option.bind_some, ask_ok hlt (hP.t k hk) (h.nd k hk) hlen, Option.bind_some]
  dsimp only
  -- the request itself, as the machine has it
  have hmet : ((if (decide (word P k (S.jb k) ≠ ("hit" : PySem.Str))) = true then ((m_Plan_make_room (k : Int) (encJ P (asked P k S).jb) (P.F : Int) x2 (encW S.wait) x4 S.told).bind fun x6 => (gxN x6.1 (k : Int)).bind fun x8 => (dputG x8.2.2.2.2.1 (pageAt P k (S.jb k)) true).bind fun x10 => (gxN (List.set x6.1 ((k : Int)).toNat ((x8.1, (x8.2.1, (x8.2.2.1, (x8.2.2.2.1, (x10, (x8.2.2.2.2.2.1, (x8.2.2.2.2.2.2.1, x8.2.2.2.2.2.2.2))))))) : JT)) (k : Int)).bind fun x12 => (okW (word P k (S.jb k)) "own" "back").bind fun x14 => some ((List.set (List.set x6.1 ((k : Int)).toNat ((x8.1, (x8.2.1, (x8.2.2.1, (x8.2.2.2.1, (x10, (x8.2.2.2.2.2.1, (x8.2.2.2.2.2.2.1, x8.2.2.2.2.2.2.2))))))) : JT)) ((k : Int)).toNat ((x12.1, (x12.2.1, (x12.2.2.1, (x12.2.2.2.1, (x12.2.2.2.2.1, (x12.2.2.2.2.2.1, ((if word P k (S.jb k) = ("own" : PySem.Str) then x12.2.2.2.2.2.2.1 + 1 else x12.2.2.2.2.2.2.1), (if word P k (S.jb k) = ("own" : PySem.Str) then x12.2.2.2.2.2.2.2 else x12.2.2.2.2.2.2.2 + 1)))))))) : JT)), (x6.2.1, x6.2.2))) else (some (encJ P (asked P k S).jb, (encW S.wait, S.told))) : Option (List JT × (List Int × List Hap)))) = some (e3 P (met P k S)) := by
    unfold met
    by_cases c : word P k (S.jb k) = "hit"
    · rw [if_pos c, if_neg (by rw [c]; decide)]
      rfl
    · rw [if_neg c, if_pos (decide_eq_true c)]
      have hl := asked_less hP h hk hs c
      obtain ⟨re, ri, rk, rh, rr⟩ := make_room_ok (x2 := x2) (x4 := x4) hP hi hL hk hl
      have re : m_Plan_make_room (k : Int) (encJ P (asked P k S).jb) (P.F : Int) x2 (encW S.wait) x4 S.told = some (e3 P (makeRoom P k (asked P k S))) := re
      rw [re, Option.bind_some]
      have e1 : (asked P k S).jb k = ask P k (S.jb k) := upd_same
      have e2 : (makeRoom P k (asked P k S)).jb k = ask P k (S.jb k) := rk.trans e1
      have hno : pageAt P k (S.jb k) ∉ (ask P k (S.jb k)).h := fun d => c (hit_iff.mpr d)
      generalize makeRoom P k (asked P k S) = R at *
      unfold e3
      dsimp only
      rw [gxN_enc hk, Option.bind_some, e2]
      have ed : dputG (toJ P k (ask P k (S.jb k))).2.2.2.2.1 (pageAt P k (S.jb k)) true = some (mk ((ask P k (S.jb k)).h ++ [pageAt P k (S.jb k)])) := dput_new hno (by
        have : (ask P k (S.jb k)).h.length ≤ (S.jb k).h.length := List.length_filter_le _ _
        omega)
      rw [ed, Option.bind_some]
      have es : ∀ x10 : List (Int × Bool), x10 = mk ((ask P k (S.jb k)).h ++ [pageAt P k (S.jb k)]) → List.set (encJ P R.jb) ((k : Int)).toNat (((toJ P k (ask P k (S.jb k))).1, ((toJ P k (ask P k (S.jb k))).2.1, ((toJ P k (ask P k (S.jb k))).2.2.1, ((toJ P k (ask P k (S.jb k))).2.2.2.1, (x10, ((toJ P k (ask P k (S.jb k))).2.2.2.2.2.1, ((toJ P k (ask P k (S.jb k))).2.2.2.2.2.2.1, (toJ P k (ask P k (S.jb k))).2.2.2.2.2.2.2))))))) : JT) = encJ P (upd R.jb k { ask P k (S.jb k) with h := (ask P k (S.jb k)).h ++ [pageAt P k (S.jb k)] }) := fun x10 hx => by
        subst hx
        exact set_enc (v := { ask P k (S.jb k) with h := (ask P k (S.jb k)).h ++ [pageAt P k (S.jb k)] })
      rw [es _ rfl, gxN_enc hk, upd_same, Option.bind_some]
      have eo : okW (word P k (S.jb k)) "own" "back" = some () := by
        unfold okW
        rw [if_pos]
        rcases word_cases P k (S.jb k) with w | w | w
        · exact absurd w c
        · exact .inr w
        · exact .inl w
      rw [eo, Option.bind_some]
      refine congrArg some (congrArg (·, (encW R.wait, R.told)) ?_)
      show List.set (encJ P (upd R.jb k { ask P k (S.jb k) with h := (ask P k (S.jb k)).h ++ [pageAt P k (S.jb k)] })) ((k : Int)).toNat _ = encJ P (upd R.jb k (gets (ask P k (S.jb k)) (word P k (S.jb k)) (pageAt P k (S.jb k))))
      have ef : encJ P (upd R.jb k (gets (ask P k (S.jb k)) (word P k (S.jb k)) (pageAt P k (S.jb k)))) = List.set (encJ P (upd R.jb k { ask P k (S.jb k) with h := (ask P k (S.jb k)).h ++ [pageAt P k (S.jb k)] })) ((k : Int)).toNat (toJ P k (gets (ask P k (S.jb k)) (word P k (S.jb k)) (pageAt P k (S.jb k)))) := by rw [set_enc, upd_upd]
      rw [ef]
      refine congrArg (List.set _ _) ?_
      unfold gets toJ
      by_cases w : word P k (S.jb k) = ("own" : PySem.Str)
      · simp only [if_pos w]
        rfl
      · simp only [if_neg w]
        rfl
  have e9' := e9
  unfold toJ at e9'
  dsimp only at e9'
  unfold toJ
  dsimp only
  rw [e9', hmet, Option.bind_some]
  unfold request
  generalize hM : met P k S = M at *
  unfold e3
  dsimp only
  rw [gxN_enc hk, Option.bind_some, psh_ok (by omega), Option.bind_some, Option.bind_some]
  have ei : m_Job_is_done (toJ P k (M.jb k)).1 (toJ P k (M.jb k)).2.1 (toJ P k (M.jb k)).2.2.1 (toJ P k (M.jb k)).2.2.2.1 (toJ P k (M.jb k)).2.2.2.2.1 (toJ P k (M.jb k)).2.2.2.2.2.1 (toJ P k (M.jb k)).2.2.2.2.2.2.1 (toJ P k (M.jb k)).2.2.2.2.2.2.2 = some (decide ((M.jb k).a = (P.T k).length)) := by
    unfold m_Job_is_done toJ
    exact congrArg some (decide_eq_decide.mpr (by dsimp only; omega))
  rw [ei, Option.bind_some]
  unfold ended
  by_cases c : (M.jb k).a = (P.T k).length
  · rw [if_pos (decide_eq_true c), if_pos (show ((says M (.three (word P k (S.jb k)) (k : Int) (pageAt P k (S.jb k)))).jb k).a = _ from c)]
    unfold m_Job_leave
    rw [Option.bind_some, Option.bind_some]
    have e10 : List.set (encJ P M.jb) ((k : Int)).toNat (((toJ P k (M.jb k)).1, ((toJ P k (M.jb k)).2.1, ((toJ P k (M.jb k)).2.2.1, ((toJ P k (M.jb k)).2.2.2.1, (([] : List (Int × Bool)), ((none : Option Int), ((toJ P k (M.jb k)).2.2.2.2.2.2.1, (toJ P k (M.jb k)).2.2.2.2.2.2.2))))))) : JT) = encJ P (upd M.jb k (left (M.jb k))) := set_enc (v := left (M.jb k))
    dsimp only
    rw [e10, gxN_enc hk, Option.bind_some, psh_ok (by rw [List.length_append]; simp; omega)]
    rfl
  · rw [if_neg (show ¬ decide ((M.jb k).a = (P.T k).length) = true from fun h => c (of_decide_eq_true h)), if_neg (show ¬ ((says M (.three (word P k (S.jb k)) (k : Int) (pageAt P k (S.jb k)))).jb k).a = _ from c)]
    rfl
end Tu
namespace Tu
open J
def goes (P : Pl) (k : Nat) (s : Sy × Nat) : Bool := decide (s.2 < P.Q) && (s.1.jb k).s.isSome
def turnOnce (P : Pl) (k : Nat) (s : Sy × Nat) : Sy × Nat := (request P k s.1, s.2 + 1)
def takeTurn (P : Pl) (k : Nat) (S : Sy) : Sy := (loop (goes P k) (turnOnce P k) (P.Q + 1) (S, 0)).1
def e4 (P : Pl) (s : Sy × Nat) : List JT × (List Int × (List Hap × Int)) := (encJ P s.1.jb, (encW s.1.wait, (s.1.told, (s.2 : Int))))
theorem on_ok {P : Pl} {k : Nat} {j : Jo} : m_Job_is_on (toJ P k j).1 (toJ P k j).2.1 (toJ P k j).2.2.1 (toJ P k j).2.2.2.1 (toJ P k j).2.2.2.2.1 (toJ P k j).2.2.2.2.2.1 (toJ P k j).2.2.2.2.2.2.1 (toJ P k j).2.2.2.2.2.2.2 = some j.s.isSome := by
  unfold m_Job_is_on toJ
  cases j.s <;> rfl
def TI (P : Pl) (L : Nat) (S : Sy) (s : Sy × Nat) : Prop := Inv P L none s.1 ∧ rq P S.jb ≤ rq P s.1.jb ∧ (0 < s.2 → rq P S.jb < rq P s.1.jb) ∧ (s.2 = 0 → s.1 = S)
theorem goes_iff {P : Pl} {k : Nat} {s : Sy × Nat} : goes P k s = true ↔ s.2 < P.Q ∧ (s.1.jb k).s.isSome = true := by
  unfold goes
  rw [Bool.and_eq_true, decide_eq_true_eq]
theorem turn_step {P : Pl} {L k : Nat} {S : Sy} (hP : POk P) (hL : L ≤ 3000) (hk : k < P.n) (s : Sy × Nat) (hs : TI P L S s) (hg : goes P k s = true) : TI P L S (turnOnce P k s) ∧ P.Q - (turnOnce P k s).2 < P.Q - s.2 := by
  have hg := goes_iff.mp hg
  obtain ⟨h1, h2, h3, h4⟩ := hs
  obtain ⟨a, b⟩ := request_inv hP hL h1 hk hg.2
  have e1 : (turnOnce P k s).1 = request P k s.1 := rfl
  have e2 : (turnOnce P k s).2 = s.2 + 1 := rfl
  unfold TI
  rw [e1, e2]
  exact ⟨⟨a, by omega, by omega, by omega⟩, by omega⟩
theorem turn_ok {P : Pl} {L k : Nat} {S : Sy} {x4 : Int} (hP : POk P) (hL : L ≤ 3000) (h : Inv P L none S) (hk : k < P.n) :
    m_Plan_take_turn (k : Int) (encJ P S.jb) (P.F : Int) (P.Q : Int) (encW S.wait) x4 S.told = some (e3 P (takeTurn P k S)) ∧ Inv P L none (takeTurn P k S) ∧ rq P S.jb ≤ rq P (takeTurn P k S).jb ∧ ((S.jb k).s.isSome = true → rq P S.jb < rq P (takeTurn P k S).jb) := by
  have h0 : TI P L S (S, 0) := ⟨h, Nat.le_refl _, fun z => absurd z (Nat.lt_irrefl 0), fun _ => rfl⟩
  have w := while_loop (e4 P) (c := m_Plan_take_turn_t0 (k : Int) (P.Q : Int)) (f := m_Plan_take_turn_w1 (k : Int) (P.F : Int) (P.Q : Int) x4) (c' := goes P k) (f' := turnOnce P k) (TI P L S) (fun s => P.Q - s.2) (fun s _ => by
    unfold m_Plan_take_turn_t0 e4
    dsimp only
    rw [gxN_enc hk, Option.bind_some, on_ok, Option.bind_some]
    have ed : decide ((s.2 : Int) < (P.Q : Int)) = decide (s.2 < P.Q) := decide_eq_decide.mpr (by omega)
    rw [ed]
    unfold goes J.andM
    cases decide (s.2 < P.Q) <;> rfl) (fun s hs hg => by
    refine ⟨?_, turn_step hP hL hk s hs hg⟩
    have hg := goes_iff.mp hg
    unfold m_Plan_take_turn_w1 e4
    dsimp only
    rw [request_ok hP hL hs.1 hk hg.2, Option.bind_some]
    rfl) (P.Q + 1) 1000000 (S, 0) h0 (by dsimp only; omega) (by have := hP.q; dsimp only; omega)
  obtain ⟨⟨a, b, c, d⟩, e, _⟩ := loop_inv (c := goes P k) (f := turnOnce P k) (TI P L S) (fun s => P.Q - s.2) (turn_step hP hL hk) (P.Q + 1) (S, 0) h0 (by dsimp only; omega)
  refine ⟨?_, a, b, fun hs => ?_⟩
  · unfold m_Plan_take_turn
    have w : whileM (m_Plan_take_turn_t0 (k : Int) (P.Q : Int)) (m_Plan_take_turn_w1 (k : Int) (P.F : Int) (P.Q : Int) x4) 1000000 (encJ P S.jb, (encW S.wait, (S.told, 0))) = _ := w
    rw [w]
    rfl
  · show rq P S.jb < rq P (loop (goes P k) (turnOnce P k) (P.Q + 1) (S, 0)).1.jb
    generalize loop (goes P k) (turnOnce P k) (P.Q + 1) (S, 0) = X at *
    by_cases z : 0 < X.2
    · exact c z
    · have z0 : X.2 = 0 := by omega
      have : goes P k X = true := goes_iff.mpr ⟨by have := hP.q.1; omega, by rw [d z0]; exact hs⟩
      rw [this] at e
      cases e
theorem Inv.more {P : Pl} {L M : Nat} {x : Option Nat} {S : Sy} (h : Inv P L x S) (hl : L ≤ M) : Inv P M x S := ⟨h.ale, h.off, h.dn, h.nd, h.hin, h.wnd, h.wt, h.sm, Nat.le_trans h.tl (by omega)⟩
theorem on_inv {P : Pl} {L l k : Nat} {ws : List Nat} {f : Nat → Jo} {t : List Hap} (h : Inv P L none ⟨f, k :: ws, t⟩) (hb : t.length + onc P f + 2 * (k :: ws).length ≤ 30 * (rq P f + L)) :
    Inv P L none ⟨upd f k { f k with s := some l }, ws, t ++ [.two "on" (k : Int)]⟩ ∧ rq P (upd f k { f k with s := some l }) = rq P f ∧ (t ++ [Hap.two "on" (k : Int)]).length + onc P (upd f k { f k with s := some l }) + 2 * ws.length ≤ 30 * (rq P (upd f k { f k with s := some l }) + L) := by
  obtain ⟨k1, k2, k3⟩ := (h.wt k).mp List.mem_cons_self
  have k2 : (f k).s = none := k2
  have k3 : (f k).a < (P.T k).length := k3
  have hnk := List.nodup_cons.mp h.wnd
  have f0 : ∀ q, q ≠ k → upd f k { f k with s := some l } q = f q := fun q hq => upd_ne hq
  have f1 : upd f k { f k with s := some l } k = { f k with s := some l } := upd_same
  have fa : ∀ q, (upd f k { f k with s := some l } q).a = (f q).a := fun q => by
    by_cases d : q = k
    · rw [d, f1]
    · rw [f0 q d]
  have fh : ∀ q, (upd f k { f k with s := some l } q).h = (f q).h := fun q => by
    by_cases d : q = k
    · rw [d, f1]
    · rw [f0 q d]
  have gr : rq P (upd f k { f k with s := some l }) = rq P f := sumTo_congr fun q _ => fa q
  have go : onc P (upd f k { f k with s := some l }) = onc P f + 1 := by
    have := sumTo_upd (n := P.n) (k := k) (g := fun q => if (f q).s.isSome = true then 1 else 0) (h := fun q => if (upd f k { f k with s := some l } q).s.isSome = true then 1 else 0) k1 (fun q hq => by (try dsimp only); rw [f0 q hq])
    try dsimp only at this
    have g1 : (if (f k).s.isSome = true then 1 else 0) = 0 := by rw [k2]; rfl
    have g2 : (if (upd f k { f k with s := some l } k).s.isSome = true then 1 else 0) = 1 := by rw [f1]; rfl
    rw [g1, g2] at this
    unfold onc
    omega
  simp only [List.length_cons] at hb
  have hx : Inv P L none ⟨upd f k { f k with s := some l }, ws, t ++ [.two "on" (k : Int)]⟩ := by
   refine ⟨fun q hq => by rw [fa]; exact h.ale q hq, fun q hq e => ?_, fun q hq hx e => ?_, fun q hq => by rw [fh]; exact h.nd q hq, fun q hq p hp => by rw [fh] at hp; rw [fa]; exact h.hin q hq p hp, hnk.2, fun q => ?_, ?_, ?_⟩
   · show (upd f k { f k with s := some l } q).h = []
     rw [fh]
     by_cases z : q = k
     · rw [z]; exact h.off k k1 k2
     · have e : (upd f k { f k with s := some l } q).s = none := e
       rw [f0 q z] at e; exact h.off q hq e
   · have e : (upd f k { f k with s := some l } q).a = (P.T q).length := e
     rw [fa] at e
     show (upd f k { f k with s := some l } q).s = none
     by_cases z : q = k
     · rw [z] at e; omega
     · rw [f0 q z]; exact h.dn q hq hx e
   · show q ∈ ws ↔ q < P.n ∧ (upd f k { f k with s := some l } q).s = none ∧ (upd f k { f k with s := some l } q).a < _
     rw [fa]
     by_cases z : q = k
     · rw [z, f1]
       exact ⟨fun y => absurd y hnk.1, fun y => by cases y.2.1⟩
     · rw [f0 q z]
       have := h.wt q
       rw [List.mem_cons] at this
       exact ⟨fun y => this.mp (.inr y), fun y => (this.mpr y).elim (fun e => absurd e z) id⟩
   · refine Nat.le_trans (Nat.le_of_eq (sumTo_congr fun q _ => ?_)) h.sm
     show (upd f k { f k with s := some l } q).h.length = _
     rw [fh]
   · show (t ++ [_]).length + onc P (upd f k { f k with s := some l }) ≤ 30 * (rq P (upd f k { f k with s := some l }) + L)
     rw [go, gr, List.length_append]
     simp only [List.length_cons, List.length_nil]
     omega
  exact ⟨hx, gr, by
    rw [go, gr, List.length_append]
    simp only [List.length_cons, List.length_nil]
    omega⟩
theorem letOn_inv {P : Pl} {L l : Nat} : ∀ (ws : List Nat) (f : Nat → Jo) (t : List Hap), Inv P L none ⟨f, ws, t⟩ → t.length + onc P f + 2 * ws.length ≤ 30 * (rq P f + L) →
    Inv P L none (letOn P l ws f t) ∧ rq P (letOn P l ws f t).jb = rq P f ∧ (on P (letOn P l ws f t).jb = [] → (letOn P l ws f t).wait = [])
  | [], f, t, h, _ => ⟨h, rfl, fun _ => rfl⟩
  | k :: ws, f, t, h, hb => by
    unfold letOn
    by_cases c : stops P f k = true
    · rw [if_pos c]
      refine ⟨h, rfl, fun e => ?_⟩
      unfold stops at c
      rw [Bool.and_eq_true] at c
      exact absurd e (of_decide_eq_true c.1)
    · rw [if_neg c]
      obtain ⟨hx, gr, hb2⟩ := on_inv (l := l) h hb
      obtain ⟨a, b, d⟩ := letOn_inv (L := L) (l := l) ws (upd f k { f k with s := some l }) (t ++ [.two "on" (k : Int)]) hx hb2
      exact ⟨a, b.trans gr, d⟩
theorem letOn_ind {P : Pl} {L l : Nat} {B : Sy → Prop} (step : ∀ f k ws t, Inv P L none ⟨f, k :: ws, t⟩ → B ⟨f, k :: ws, t⟩ → stops P f k = false → B ⟨upd f k { f k with s := some l }, ws, t ++ [.two "on" (k : Int)]⟩) : ∀ (ws : List Nat) (f : Nat → Jo) (t : List Hap), Inv P L none ⟨f, ws, t⟩ → t.length + onc P f + 2 * ws.length ≤ 30 * (rq P f + L) → B ⟨f, ws, t⟩ → B (letOn P l ws f t)
  | [], f, t, _, _, hB => hB
  | k :: ws, f, t, h, hb, hB => by
    unfold letOn
    by_cases c : stops P f k = true
    · rw [if_pos c]; exact hB
    · rw [if_neg c]
      obtain ⟨hx, gr, hb2⟩ := on_inv (l := l) h hb
      exact letOn_ind step ws _ _ hx hb2 (step f k ws t h hB (by simpa using c))
def lets (P : Pl) (s : Sy × Nat) : Sy × Nat := (letOn P (s.2 + 1) s.1.wait s.1.jb s.1.told, s.2 + 1)
theorem lets_inv {P : Pl} {L : Nat} {S : Sy} (hP : POk P) (h : Inv P L none S) : Inv P (L + 1) none (lets P (S, L)).1 ∧ rq P (lets P (S, L)).1.jb = rq P S.jb ∧ (on P (lets P (S, L)).1.jb = [] → (lets P (S, L)).1.wait = []) := by
  have hw := wait_len h
  have hn := hP.n
  have ht := h.tl
  exact letOn_inv S.wait S.jb S.told (h.more (by omega)) (by omega)
theorem lets_ok {P : Pl} {L : Nat} {S : Sy} {x2 : Int} (hP : POk P) (hL : L ≤ 3000) (h : Inv P L none S) : m_Plan_let_on (encJ P S.jb) (P.F : Int) x2 (encW S.wait) (L : Int) S.told = some (lettO (lets P (S, L)).1 P (L + 1)) := by
  have hw := wait_len h
  have hn := hP.n
  have ht := told_lt hP hL h
  unfold m_Plan_let_on
  exact let_loop hP 1000000 S.wait S.jb S.told (by omega) (by omega) (by omega) (fun k hk => ((h.wt k).mp hk).1) h.ale
def turns (P : Pl) (S : Sy) : Sy := (on P S.jb).foldl (fun S k => takeTurn P k S) S
def rnd (P : Pl) (s : Sy × Nat) : Sy × Nat := lets P (turns P s.1, s.2)
def goC (P : Pl) (s : Sy × Nat) : Bool := decide (on P s.1.jb ≠ [])
def go (P : Pl) (S : Sy) : Sy × Nat := loop (goC P) (rnd P) 2402 (lets P (S, 0))
def e5 (P : Pl) (s : Sy × Nat) : List JT × (List Int × (Int × List Hap)) := (encJ P s.1.jb, (encW s.1.wait, ((s.2 : Int), s.1.told)))
theorem turns_ok {P : Pl} {L : Nat} (hP : POk P) (hL : L ≤ 3000) {s2 : List JT × (List Int × (Int × List Hap))} : ∀ (ks : List Nat) (S : Sy), Inv P L none S → (∀ k ∈ ks, k < P.n) →
    forM (m_Plan_go_b0 (P.F : Int) (P.Q : Int) s2) (encW ks) (e3 P S) = some (e3 P (ks.foldl (fun S k => takeTurn P k S) S)) ∧ Inv P L none (ks.foldl (fun S k => takeTurn P k S) S) ∧ rq P S.jb ≤ rq P (ks.foldl (fun S k => takeTurn P k S) S).jb ∧ (∀ k rest, ks = k :: rest → (S.jb k).s.isSome = true → rq P S.jb < rq P (ks.foldl (fun S k => takeTurn P k S) S).jb)
  | [], S, h, _ => ⟨rfl, h, Nat.le_refl _, fun k rest e => by cases e⟩
  | k :: ks, S, h, hk => by
    obtain ⟨a, b, c, d⟩ := turn_ok (x4 := s2.2.2.1) hP hL h (hk k List.mem_cons_self)
    obtain ⟨a2, b2, c2, d2⟩ := turns_ok hP hL (s2 := s2) ks (takeTurn P k S) b fun q hq => hk q (List.mem_cons_of_mem _ hq)
    rw [List.foldl_cons]
    refine ⟨?_, b2, Nat.le_trans c c2, fun q rest e hs => ?_⟩
    · show (m_Plan_go_b0 (P.F : Int) (P.Q : Int) s2 (e3 P S) (k : Int)).bind _ = _
      have : m_Plan_go_b0 (P.F : Int) (P.Q : Int) s2 (e3 P S) (k : Int) = some (e3 P (takeTurn P k S)) := by
        unfold m_Plan_go_b0 e3
        try dsimp only
        rw [a, Option.bind_some]
        rfl
      rw [this, Option.bind_some]
      exact a2
    · cases e
      have := d hs
      omega
def total (P : Pl) : Nat := sumTo P.n fun k => (P.T k).length
theorem rq_total {P : Pl} {L : Nat} {x : Option Nat} {S : Sy} (h : Inv P L x S) : rq P S.jb ≤ total P := sumTo_le h.ale
theorem total_le {P : Pl} (hP : POk P) : total P ≤ 2400 := by
  have h1 : total P ≤ sumTo P.n fun _ => 200 := sumTo_le fun k hk => hP.t k hk
  rw [sumTo_const] at h1
  have := hP.n
  omega
/-- a round's end -/
def GI (P : Pl) (s : Sy × Nat) : Prop := Inv P s.2 none s.1 ∧ s.2 ≤ rq P s.1.jb + 1 ∧ (on P s.1.jb = [] → s.1.wait = [])
theorem turns_inv {P : Pl} {L : Nat} {S : Sy} (hP : POk P) (hL : L ≤ 3000) (h : Inv P L none S) : Inv P L none (turns P S) ∧ rq P S.jb ≤ rq P (turns P S).jb ∧ (on P S.jb ≠ [] → rq P S.jb < rq P (turns P S).jb) := by
  obtain ⟨_, b, c, d⟩ := turns_ok hP hL (s2 := ([], ([], (0, [])))) (on P S.jb) S h fun k hk => (on_mem.mp hk).1
  refine ⟨b, c, fun hne => ?_⟩
  obtain ⟨k, rest, e⟩ := List.exists_cons_of_ne_nil hne
  exact d k rest e (on_mem.mp (by rw [e]; exact List.mem_cons_self)).2
theorem rnd_inv {P : Pl} (hP : POk P) (s : Sy × Nat) (h : GI P s) (hc : goC P s = true) : GI P (rnd P s) ∧ total P - rq P (rnd P s).1.jb < total P - rq P s.1.jb := by
  obtain ⟨h1, h2, _⟩ := h
  have hr := rq_total h1
  have ht := total_le hP
  obtain ⟨a, b, c⟩ := turns_inv hP (by omega) h1
  have c := c (of_decide_eq_true hc)
  obtain ⟨d, e, f⟩ := lets_inv hP a
  have hr2 := rq_total a
  have e2 : rnd P s = lets P (turns P s.1, s.2) := rfl
  have e3 : (lets P (turns P s.1, s.2)).2 = s.2 + 1 := rfl
  refine ⟨⟨d, ?_, f⟩, ?_⟩
  · rw [e2, e3, e]; omega
  · rw [e2, e]; omega
theorem go_inv {P : Pl} {S : Sy} (hP : POk P) (h : Inv P 0 none S) : GI P (go P S) ∧ on P (go P S).1.jb = [] := by
  obtain ⟨a, b, c⟩ := lets_inv hP h
  have ht := total_le hP
  obtain ⟨d, e, _⟩ := loop_inv (c := goC P) (f := rnd P) (GI P) (fun s => total P - rq P s.1.jb) (rnd_inv hP) 2402 (lets P (S, 0)) ⟨a, by show 0 + 1 ≤ _; omega, c⟩ (by (try dsimp only); omega)
  refine ⟨d, ?_⟩
  have e := of_decide_eq_false e
  exact Classical.byContradiction fun z => e z
theorem go_ok {P : Pl} {S : Sy} (hP : POk P) (h : Inv P 0 none S) : m_Plan_go (encJ P S.jb) (P.F : Int) (P.Q : Int) (encW S.wait) 0 S.told = some (e5 P (go P S)) := by
  obtain ⟨a, b, c⟩ := lets_inv hP h
  have ht := total_le hP
  unfold m_Plan_go
  have e0 : m_Plan_let_on (encJ P S.jb) (P.F : Int) (P.Q : Int) (encW S.wait) 0 S.told = some (e5 P (lets P (S, 0))) := lets_ok (L := 0) hP (by omega) h
  rw [e0, Option.bind_some]
  have w := while_loop (e5 P) (c := m_Plan_go_t1 (P.F : Int) (P.Q : Int)) (f := m_Plan_go_w2 (P.F : Int) (P.Q : Int)) (c' := goC P) (f' := rnd P) (GI P) (fun s => total P - rq P s.1.jb) (fun s hs => by
    unfold m_Plan_go_t1 e5
    try dsimp only
    rw [on_now_ok hP, Option.bind_some]
    unfold goC encW
    exact congrArg some (decide_eq_decide.mpr (by simp))) (fun s hs hc => by
    refine ⟨?_, rnd_inv hP s hs hc⟩
    obtain ⟨h1, h2, _⟩ := hs
    have hr := rq_total h1
    unfold m_Plan_go_w2
    have es : ∀ y : List JT × (List Int × (Int × List Hap)), y = e5 P s → (y.1, (y.2.1, y.2.2.2)) = e3 P s.1 := fun y hy => by rw [hy]; rfl
    rw [es _ rfl]
    have eo : m_Plan_on_now (e5 P s).1 (P.F : Int) (P.Q : Int) (e5 P s).2.1 (e5 P s).2.2.1 (e5 P s).2.2.2 = some (encW (on P s.1.jb)) := on_now_ok hP
    rw [eo, Option.bind_some]
    obtain ⟨t1, t2, _, _⟩ := turns_ok hP (by omega) (s2 := e5 P s) (on P s.1.jb) s.1 h1 fun k hk => (on_mem.mp hk).1
    rw [t1, Option.bind_some]
    have el : m_Plan_let_on (e3 P (turns P s.1)).1 (P.F : Int) (P.Q : Int) (e3 P (turns P s.1)).2.1 (e5 P s).2.2.1 (e3 P (turns P s.1)).2.2 = some (e5 P (rnd P s)) := lets_ok hP (by omega) t2
    have el : m_Plan_let_on (e3 P ((on P s.1.jb).foldl (fun S k => takeTurn P k S) s.1)).1 (P.F : Int) (P.Q : Int) (e3 P ((on P s.1.jb).foldl (fun S k => takeTurn P k S) s.1)).2.1 (e5 P s).2.2.1 (e3 P ((on P s.1.jb).foldl (fun S k => takeTurn P k S) s.1)).2.2 = some (e5 P (rnd P s)) := el
    rw [el]
    rfl) 2402 1000000 (lets P (S, 0)) ⟨a, by show 0 + 1 ≤ _; omega, c⟩ (by (try dsimp only); omega) (by (try dsimp only); omega)
  have w : whileM (m_Plan_go_t1 (P.F : Int) (P.Q : Int)) (m_Plan_go_w2 (P.F : Int) (P.Q : Int)) 1000000 ((e5 P (lets P (S, 0))).1, ((e5 P (lets P (S, 0))).2.1, ((e5 P (lets P (S, 0))).2.2.1, (e5 P (lets P (S, 0))).2.2.2))) = some (e5 P (go P S)) := w
  rw [w]
  rfl
end Tu
namespace Tu
open J
theorem enu_gen {α : Type} : ∀ {t : List α} {i : Int} {n : Nat}, (enu i t)[n]? = (t[n]?).map fun x => (i + n, x)
  | [], _, _ => rfl
  | x :: t, i, 0 => by
    show some (i, x) = some (i + (0 : Nat), x)
    simp
  | x :: t, i, n + 1 => by
    show (enu (i + 1) t)[n]? = (t[n]?).map _
    rw [enu_gen]
    congr 1
    funext y
    rw [show i + 1 + (n : Int) = i + ((n + 1 : Nat) : Int) by omega]
def plOf (lot : List (List Int × Int)) (F Q : Nat) : Pl := ⟨lot.length, fun k => (lot.getD k ([], 1)).1, fun k => ((lot.getD k ([], 1)).2).toNat, F, Q⟩
/-- what a plan is made of does: windows are one at least, and the frames are enough -/
structure PlanOk (lot : List (List Int × Int)) (F Q : Nat) : Prop where
  n : lot.length ≤ 12
  t : ∀ e ∈ lot, e.1.length ≤ 200 ∧ 1 ≤ e.2 ∧ e.2 ≤ F
  f : 1 ≤ F ∧ F ≤ 1000000
  q : 1 ≤ Q ∧ Q ≤ 1000
theorem getD_in {α : Type} {l : List α} {k : Nat} {d : α} (h : k < l.length) : l.getD k d ∈ l := by
  rw [List.getD_eq_getElem?_getD, List.getElem?_eq_getElem h]
  exact List.getElem_mem h
theorem plOf_ok {lot : List (List Int × Int)} {F Q : Nat} (h : PlanOk lot F Q) : POk (plOf lot F Q) :=
  ⟨h.n, fun k hk => (h.t _ (getD_in hk)).1, fun k hk => by
    have := (h.t _ (getD_in (d := ([], 1)) hk)).2
    show 1 ≤ ((lot.getD k ([], 1)).2).toNat ∧ ((lot.getD k ([], 1)).2).toNat ≤ F
    omega, h.f, h.q⟩
def j0 : Jo := ⟨0, [], none, 0, 0⟩
def S0 (P : Pl) : Sy := ⟨fun _ => j0, (List.range P.n).filter fun k => decide (P.T k ≠ []), []⟩
theorem sumTo_zero {n : Nat} {g : Nat → Nat} (h : ∀ k, k < n → g k = 0) : sumTo n g = 0 := by
  rw [sumTo_congr (h := fun _ => 0) h, sumTo_const]
  omega
theorem S0_wt (P : Pl) (k : Nat) : k ∈ (S0 P).wait ↔ k < P.n ∧ ((S0 P).jb k).s = none ∧ ((S0 P).jb k).a < (P.T k).length := by
  show k ∈ (List.range P.n).filter _ ↔ k < P.n ∧ (none : Option Nat) = none ∧ 0 < _
  rw [List.mem_filter, List.mem_range, decide_eq_true_eq, List.length_pos_iff]
  exact ⟨fun h => ⟨h.1, rfl, h.2⟩, fun h => ⟨h.1, h.2.2⟩⟩
theorem S0_inv (P : Pl) : Inv P 0 none (S0 P) :=
  ⟨fun _ _ => Nat.zero_le _, fun _ _ _ => rfl, fun _ _ _ _ => rfl, fun _ _ => List.nodup_nil, fun _ _ p hp => absurd hp List.not_mem_nil, List.Nodup.sublist List.filter_sublist List.nodup_range, fun k => S0_wt P k, by
    have : held P (S0 P).jb = 0 := sumTo_zero fun _ _ => rfl
    omega, by
    have : onc P (S0 P).jb = 0 := sumTo_zero fun _ _ => rfl
    show 0 + onc P (S0 P).jb ≤ _
    omega⟩
theorem init_enc {lot : List (List Int × Int)} {F Q : Nat} (h : PlanOk lot F Q) : (enu 0 lot).map (fun x3 : Int × (List Int × Int) => ((x3.1, (x3.2.1, (x3.2.2, (0, (([] : List (Int × Bool)), ((none : Option Int), (0, 0))))))) : JT)) = encJ (plOf lot F Q) (S0 (plOf lot F Q)).jb := by
  apply List.ext_getElem?
  intro k
  unfold encJ
  rw [List.getElem?_map, enu_gen, List.getElem?_map]
  by_cases hk : k < lot.length
  · rw [List.getElem?_eq_getElem hk, List.getElem?_range (show k < (plOf lot F Q).n from hk)]
    have hm := h.t _ (List.getElem_mem hk)
    show some _ = some (toJ (plOf lot F Q) k j0)
    unfold toJ plOf
    dsimp only
    have e : lot.getD k ([], 1) = lot[k] := by rw [List.getD_eq_getElem?_getD, List.getElem?_eq_getElem hk]; rfl
    rw [e]
    have e2 : ((lot[k].2.toNat : Nat) : Int) = lot[k].2 := by omega
    rw [e2, Int.zero_add]
    rfl
  · rw [List.getElem?_eq_none (by omega), List.getElem?_eq_none (by rw [List.length_range]; show lot.length ≤ k; omega)]
    rfl
theorem init_ok {lot : List (List Int × Int)} {F Q : Nat} (h : PlanOk lot F Q) : m_Plan_init lot (F : Int) (Q : Int) = some (encJ (plOf lot F Q) (S0 (plOf lot F Q)).jb, ((F : Int), ((Q : Int), (encW (S0 (plOf lot F Q)).wait, (0, ([] : List Hap)))))) := by
  have hP := plOf_ok h
  have hn := h.n
  unfold m_Plan_init
  rw [lcM_map (g := fun x3 : Int × (List Int × Int) => ((x3.1, (x3.2.1, (x3.2.2, (0, (([] : List (Int × Bool)), ((none : Option Int), (0, 0))))))) : JT)) (fun x _ => rfl) (by rw [enu_len]; omega), Option.bind_some]
  dsimp only
  rw [init_enc h, encJ_len, rng_enc, lcW_filter (p := fun k => decide ((plOf lot F Q).T k ≠ [])) (fun k hk => ?_) (by rw [List.length_range]; have := hP.n; omega), Option.bind_some]
  · rfl
  · unfold m_Plan_init_c1
    rw [gxN_enc (List.mem_range.mp hk), Option.bind_some]
    have ei : m_Job_is_done (toJ (plOf lot F Q) k j0).1 (toJ (plOf lot F Q) k j0).2.1 (toJ (plOf lot F Q) k j0).2.2.1 (toJ (plOf lot F Q) k j0).2.2.2.1 (toJ (plOf lot F Q) k j0).2.2.2.2.1 (toJ (plOf lot F Q) k j0).2.2.2.2.2.1 (toJ (plOf lot F Q) k j0).2.2.2.2.2.2.1 (toJ (plOf lot F Q) k j0).2.2.2.2.2.2.2 = some (decide ((plOf lot F Q).T k = [])) := by
      unfold m_Job_is_done toJ j0
      refine congrArg some (decide_eq_decide.mpr ?_)
      dsimp only
      rw [← List.length_eq_zero_iff]
      omega
    show (m_Job_is_done (toJ (plOf lot F Q) k j0).1 (toJ (plOf lot F Q) k j0).2.1 (toJ (plOf lot F Q) k j0).2.2.1 (toJ (plOf lot F Q) k j0).2.2.2.1 (toJ (plOf lot F Q) k j0).2.2.2.2.1 (toJ (plOf lot F Q) k j0).2.2.2.2.2.1 (toJ (plOf lot F Q) k j0).2.2.2.2.2.2.1 (toJ (plOf lot F Q) k j0).2.2.2.2.2.2.2).bind _ = _
    rw [ei, Option.bind_some]
    by_cases c : (plOf lot F Q).T k = []
    · rw [decide_eq_true c, if_neg (by decide), if_neg (by rw [decide_eq_true_eq]; exact fun z => z c)]
    · rw [decide_eq_false c, if_pos (show (!false) = true from rfl), if_pos (decide_eq_true c)]
def fin (lot : List (List Int × Int)) (F Q : Nat) : Sy × Nat := go (plOf lot F Q) (S0 (plOf lot F Q))
theorem needs_ok {lot : List (List Int × Int)} : ∀ {i : Int}, (∀ e ∈ lot, 1 ≤ e.2) → forM m_played_b0 (enu i lot) () = some () := by
  induction lot with
  | nil => intro _ _; rfl
  | cons e lot ih =>
    intro i h
    show (m_played_b0 () (i, e)).bind _ = _
    have : m_played_b0 () (i, e) = some () := by
      unfold m_played_b0 m_need_window
      have := h e List.mem_cons_self
      dsimp only
      rw [if_neg (by rw [decide_eq_true_eq]; omega)]
      rfl
    rw [this, Option.bind_some]
    exact ih fun e he => h e (List.mem_cons_of_mem _ he)
theorem max_le {lot : List (List Int × Int)} {F : Int} (h : ∀ e ∈ lot, e.2 ≤ F) (h1 : 1 ≤ F) : maxDf (lot.map fun e => e.2) 1 ≤ F := by
  obtain ⟨m1, m2, m3⟩ := maxDf_spec (xs := lot.map fun e : List Int × Int => e.2) (d := 1)
  by_cases c : lot.map (fun e : List Int × Int => e.2) = []
  · rw [m1 c]; exact h1
  · obtain ⟨e, he, h9⟩ := List.mem_map.mp (m3 c)
    have := h e he
    omega
theorem played_ok {lot : List (List Int × Int)} {F Q : Nat} (h : PlanOk lot F Q) : m_played lot (F : Int) (Q : Int) = some (encJ (plOf lot F Q) (fin lot F Q).1.jb, ((F : Int), ((Q : Int), (encW (fin lot F Q).1.wait, (((fin lot F Q).2 : Int), (fin lot F Q).1.told))))) := by
  have hn := h.n
  unfold m_played
  rw [needs_ok fun e he => (h.t e he).2.1, Option.bind_some, lcM_map (g := fun e : List Int × Int => e.2) (fun e _ => rfl) (by omega), Option.bind_some]
  dsimp only
  have hm := max_le (F := (F : Int)) (fun e he => (h.t e he).2.2) (by have := h.f; omega)
  rw [if_neg (by rw [decide_eq_true_eq]; omega), if_neg (by rw [decide_eq_true_eq]; have := h.q; omega), init_ok h, Option.bind_some]
  dsimp only
  have g := go_ok (plOf_ok h) (S0_inv (plOf lot F Q))
  have g : m_Plan_go (encJ (plOf lot F Q) (S0 (plOf lot F Q)).jb) (F : Int) (Q : Int) (encW (S0 (plOf lot F Q)).wait) 0 [] = some (e5 (plOf lot F Q) (fin lot F Q)) := g
  rw [g, Option.bind_some]
  rfl
theorem story_ok {lot : List (List Int × Int)} {F Q : Nat} (h : PlanOk lot F Q) : m_story lot (F : Int) (Q : Int) = some (fin lot F Q).1.told := by
  unfold m_story
  rw [played_ok h, Option.bind_some]
theorem fin_inv {lot : List (List Int × Int)} {F Q : Nat} (h : PlanOk lot F Q) : GI (plOf lot F Q) (fin lot F Q) ∧ on (plOf lot F Q) (fin lot F Q).1.jb = [] := go_inv (plOf_ok h) (S0_inv _)
/-- at the end all are done -/
theorem fin_done {lot : List (List Int × Int)} {F Q : Nat} (h : PlanOk lot F Q) : ∀ k, k < lot.length → ((fin lot F Q).1.jb k).a = ((plOf lot F Q).T k).length ∧ ((fin lot F Q).1.jb k).s = none := fun k hk => by
  obtain ⟨⟨h1, h2, h3⟩, h4⟩ := fin_inv h
  have hs : ((fin lot F Q).1.jb k).s = none := by
    cases e : ((fin lot F Q).1.jb k).s with
    | none => rfl
    | some v =>
      have : k ∈ on (plOf lot F Q) (fin lot F Q).1.jb := on_mem.mpr ⟨hk, by rw [e]; rfl⟩
      rw [h4] at this
      cases this
  refine ⟨?_, hs⟩
  have ha := h1.ale k hk
  have : ¬ ((fin lot F Q).1.jb k).a < ((plOf lot F Q).T k).length := fun z => by
    have := (h1.wt k).mpr ⟨hk, hs, z⟩
    rw [h3 h4] at this
    cases this
  omega
theorem faults_ok {lot : List (List Int × Int)} {F Q : Nat} (h : PlanOk lot F Q) : m_job_faults lot (F : Int) (Q : Int) = some ((List.range lot.length).map fun k => ((((fin lot F Q).1.jb k).o : Int), (((fin lot F Q).1.jb k).b : Int))) := by
  have hn := h.n
  unfold m_job_faults
  rw [played_ok h, Option.bind_some]
  dsimp only
  rw [encJ_len, rng_enc, lcW_map (g := fun k => ((((fin lot F Q).1.jb k).o : Int), (((fin lot F Q).1.jb k).b : Int))) (fun k hk => ?_) (by rw [List.length_range]; show lot.length ≤ _; omega)]
  · rfl
  · unfold m_job_faults_c0
    have hk := List.mem_range.mp hk
    have : gx (encJ (plOf lot F Q) (fin lot F Q).1.jb) (k : Int) = some (toJ (plOf lot F Q) k ((fin lot F Q).1.jb k)) := by
      have := gxN_enc (P := plOf lot F Q) (f := (fin lot F Q).1.jb) hk
      exact (gxN_of this).2
    rw [this]
    rfl
end Tu
namespace Tu
open J
open PySem (PyData)
end Tu
namespace Tu
open J
theorem room_ind {P : Pl} {L k : Nat} {S : Sy} {B : Sy → Prop} (hP : POk P) (h : Inv P L (some k) S) (hk : k < P.n) (hl : (S.jb k).h.length < P.F) (hB : B S) (step : ∀ R, Inv P L (some k) R → R.jb k = S.jb k → full P R = true → B R → B (roomOnce P k R)) : B (makeRoom P k S) := by
  have ho := onc_le (P := P) (f := S.jb)
  have hn := hP.n
  exact (loop_inv (c := full P) (f := roomOnce P k) (fun s => (Inv P L (some k) s ∧ s.jb k = S.jb k) ∧ B s) (fun s => onc P s.jb) (fun s hs hf => by
    obtain ⟨a, b, c, d⟩ := room_inv hP hs.1.1 hk hf (by rw [hs.1.2]; exact hl)
    exact ⟨⟨⟨a, b.trans hs.1.2⟩, step s hs.1.1 hs.1.2 hf hs.2⟩, by omega⟩) 13 S ⟨⟨h, rfl⟩, hB⟩ (by omega)).1.2
/-- A: between turns; C k i: in a turn of k's, i requests being done -/
theorem run_ind {P : Pl} (hP : POk P) (A : Nat → Sy → Prop) (C : Nat → Nat → Nat → Sy → Prop) (h0 : A 0 (S0 P))
    (hlet : ∀ L S, L ≤ 3000 → Inv P L none S → A L S → A (L + 1) (lets P (S, L)).1)
    (hbeg : ∀ L S k, L ≤ 3000 → Inv P L none S → k < P.n → A L S → C L k 0 S)
    (hreq : ∀ L S k i, L ≤ 3000 → Inv P L none S → k < P.n → (S.jb k).s.isSome = true → i < P.Q → C L k i S → C L k (i + 1) (request P k S))
    (hend : ∀ L S k i, L ≤ 3000 → Inv P L none S → k < P.n → i ≤ P.Q → (i = P.Q ∨ (S.jb k).s = none) → C L k i S → A L S) : A (go P (S0 P)).2 (go P (S0 P)).1 := by
  have ht := total_le hP
  have hturn : ∀ L S k, L ≤ 3000 → Inv P L none S → k < P.n → A L S → Inv P L none (takeTurn P k S) ∧ A L (takeTurn P k S) := fun L S k hL h hk hA => by
    obtain ⟨⟨⟨a, b, c⟩, d⟩, e, _⟩ := loop_inv (c := goes P k) (f := turnOnce P k) (fun s => (Inv P L none s.1 ∧ C L k s.2 s.1 ∧ s.2 ≤ P.Q) ∧ True) (fun s => P.Q - s.2) (fun s hs hg => by
      have hg := goes_iff.mp hg
      have e1 : (turnOnce P k s).1 = request P k s.1 := rfl
      have e2 : (turnOnce P k s).2 = s.2 + 1 := rfl
      rw [e1, e2]
      exact ⟨⟨⟨(request_inv hP hL hs.1.1 hk hg.2).1, hreq L s.1 k s.2 hL hs.1.1 hk hg.2 hg.1 hs.1.2.1, by omega⟩, trivial⟩, by omega⟩) (P.Q + 1) (S, 0) ⟨⟨h, hbeg L S k hL h hk hA, Nat.zero_le _⟩, trivial⟩ (by show P.Q - 0 < _; omega)
    refine ⟨a, hend L _ k _ hL a hk c ?_ b⟩
    by_cases z : (loop (goes P k) (turnOnce P k) (P.Q + 1) (S, 0)).2 < P.Q
    · right
      cases q : ((loop (goes P k) (turnOnce P k) (P.Q + 1) (S, 0)).1.jb k).s with
      | none => exact q
      | some v =>
        have : goes P k (loop (goes P k) (turnOnce P k) (P.Q + 1) (S, 0)) = true := goes_iff.mpr ⟨z, by rw [q]; rfl⟩
        rw [this] at e
        cases e
    · left; omega
  have hturns : ∀ L, L ≤ 3000 → ∀ (ks : List Nat) (S : Sy), (∀ k ∈ ks, k < P.n) → Inv P L none S → A L S → A L (ks.foldl (fun S k => takeTurn P k S) S) := fun L hL ks => by
    induction ks with
    | nil => intro S _ _ hA; exact hA
    | cons k ks ih =>
      intro S hk h hA
      obtain ⟨a, b⟩ := hturn L S k hL h (hk k List.mem_cons_self) hA
      exact ih _ (fun q hq => hk q (List.mem_cons_of_mem _ hq)) a b
  obtain ⟨a, b, c⟩ := lets_inv hP (S0_inv P)
  exact (loop_inv (c := goC P) (f := rnd P) (fun s => GI P s ∧ A s.2 s.1) (fun s => total P - rq P s.1.jb) (fun s hs hc => by
    obtain ⟨g1, g2⟩ := rnd_inv hP s hs.1 hc
    have hr := rq_total hs.1.1
    have hL : s.2 ≤ 3000 := by have := hs.1.2.1; omega
    refine ⟨⟨g1, ?_⟩, g2⟩
    have t1 := turns_inv hP hL hs.1.1
    exact hlet s.2 (turns P s.1) hL t1.1 (hturns s.2 hL (on P s.1.jb) s.1 (fun k hk => (on_mem.mp hk).1) hs.1.1 hs.2)) 2402 (lets P (S0 P, 0)) ⟨⟨a, by show 0 + 1 ≤ _; omega, c⟩, hlet 0 _ (by omega) (S0_inv P) h0⟩ (by omega)).1.2
theorem lets_ind {P : Pl} {L : Nat} {S : Sy} {B : Sy → Prop} (hP : POk P) (h : Inv P L none S) (hB : B S) (step : ∀ f k ws t, Inv P (L + 1) none ⟨f, k :: ws, t⟩ → B ⟨f, k :: ws, t⟩ → stops P f k = false → B ⟨upd f k { f k with s := some (L + 1) }, ws, t ++ [.two "on" (k : Int)]⟩) : B (lets P (S, L)).1 := by
  have hw := wait_len h
  have hn := hP.n
  have ht := h.tl
  exact letOn_ind step S.wait S.jb S.told (h.more (by omega)) (by omega) hB
end Tu
namespace Tu
open J
theorem request_ev {P : Pl} {L k : Nat} {S : Sy} {B0 B1 B2 : Sy → Prop} (hP : POk P) (hL : L ≤ 3000) (h : Inv P L none S) (hk : k < P.n) (hs : (S.jb k).s.isSome = true)
    (h0 : (S.jb k).a < (P.T k).length → Inv P L (some k) (asked P k S) → B0 (asked P k S))
    (hroom : ∀ R, Inv P L (some k) R → R.jb k = ask P k (S.jb k) → full P R = true → word P k (S.jb k) ≠ "hit" → B0 R → B0 (roomOnce P k R))
    (hhit : Inv P L (some k) (asked P k S) → word P k (S.jb k) = "hit" → B0 (asked P k S) → B1 (says (asked P k S) (.three "hit" (k : Int) (pageAt P k (S.jb k)))))
    (hget : ∀ R, Inv P L (some k) R → R.jb k = ask P k (S.jb k) → held P R.jb < P.F → word P k (S.jb k) ≠ "hit" → B0 R → B1 (says (setJ R k (gets (ask P k (S.jb k)) (word P k (S.jb k)) (pageAt P k (S.jb k)))) (.three (word P k (S.jb k)) (k : Int) (pageAt P k (S.jb k)))))
    (hdone : ∀ M, (M.jb k).a = (S.jb k).a + 1 → (M.jb k).s = (S.jb k).s → (M.jb k).a = (P.T k).length → B1 M → B2 (says (setJ M k (left (M.jb k))) (.two "done" (k : Int))))
    (hmore : ∀ M, (M.jb k).a = (S.jb k).a + 1 → (M.jb k).s = (S.jb k).s → (M.jb k).a ≠ (P.T k).length → B1 M → B2 M) : B2 (request P k S) := by
  obtain ⟨hlt, hi, hr, ht⟩ := asked_inv hP h hk hs
  obtain ⟨mi, mr, ma, ms, mt⟩ := met_inv hP hL h hk hs
  have e1 : (asked P k S).jb k = ask P k (S.jb k) := upd_same
  have b0 := h0 hlt hi
  have b1 : B1 (says (met P k S) (.three (word P k (S.jb k)) (k : Int) (pageAt P k (S.jb k)))) := by
    unfold met
    by_cases c : word P k (S.jb k) = "hit"
    · rw [if_pos c, c]
      exact hhit hi c b0
    · rw [if_neg c]
      have hl := asked_less hP h hk hs c
      obtain ⟨_, ri, rk, rh, rr⟩ := make_room_ok (x2 := 0) (x4 := 0) hP hi hL hk hl
      have e2 := rk.trans e1
      have b := room_ind hP hi hk hl b0 fun R h1 h2 h3 h4 => hroom R h1 (h2.trans e1) h3 c h4
      rw [e2]
      exact hget _ ri e2 rh c b
  unfold request
  generalize hM : met P k S = M at *
  unfold ended
  by_cases c : ((says M (.three (word P k (S.jb k)) (k : Int) (pageAt P k (S.jb k)))).jb k).a = (P.T k).length
  · rw [if_pos c]
    exact hdone (says M _) ma ms c b1
  · rw [if_neg c]
    exact hmore (says M _) ma ms c b1
/-- own just where the page does not work -/
theorem word_own {P : Pl} {L k : Nat} {S : Sy} (h : Inv P L none S) (hk : k < P.n) : word P k (S.jb k) = "own" ↔ pg (P.T k) (S.jb k).a ∉ wn (P.W k) (P.T k) (S.jb k).a := by
  have := own_iff (P := P) (k := k) (j := S.jb k) fun hp => by
    have := (List.mem_filter.mp hp).1
    exact wk_mem.mpr (h.hin k hk _ this)
  rw [this, wk_mem]
  rfl
end Tu
namespace Tu
open J
def evW (P : Pl) (k i : Nat) : PySem.Str := if pg (P.T k) i ∈ wn (P.W k) (P.T k) i then "hit" else "own"
def ev (P : Pl) (k i : Nat) : Hap := .three (evW P k i) (k : Int) (pg (P.T k) i)
def owns (P : Pl) (k a : Nat) : Nat := sumTo a fun i => if pg (P.T k) i ∈ wn (P.W k) (P.T k) i then 0 else 1
end Tu
namespace Tu
open J
inductive JL (P : Pl) (k : Nat) : List Hap → Nat → Bool → Bool → Prop where
  | nil : JL P k [] 0 false false
  | on {l : List Hap} {a : Nat} : JL P k l a false false → a < (P.T k).length → JL P k (l ++ [.two "on" (k : Int)]) a true false
  | off {l : List Hap} {a : Nat} : JL P k l a true false → JL P k (l ++ [.two "off" (k : Int)]) a false false
  | ask {l : List Hap} {a : Nat} {w : PySem.Str} : JL P k l a true false → a < (P.T k).length → (w = "own" ∨ w = "back" ∨ w = "hit") → (w = "own" ↔ pg (P.T k) a ∉ wn (P.W k) (P.T k) a) → JL P k (l ++ [.three w (k : Int) (pg (P.T k) a)]) (a + 1) true false
  | done {l : List Hap} {a : Nat} : JL P k l a true false → a = (P.T k).length → JL P k (l ++ [.two "done" (k : Int)]) a false true
def mine (k : Nat) (t : List Hap) : List Hap := t.filter fun e => decide (e.nm = (k : Int))
theorem mine_app (k : Nat) (t : List Hap) (e : Hap) : mine k (t ++ [e]) = if e.nm = (k : Int) then mine k t ++ [e] else mine k t := by
  unfold mine
  rw [List.filter_append]
  by_cases c : e.nm = (k : Int)
  · rw [if_pos c, List.filter_cons, if_pos (decide_eq_true c)]
    rfl
  · rw [if_neg c, List.filter_cons, if_neg (by rw [decide_eq_true_eq]; exact c)]
    exact List.append_nil _
def doneB (P : Pl) (k : Nat) (j : Jo) : Bool := decide (0 < (P.T k).length) && decide (j.a = (P.T k).length) && j.s.isNone
structure Logs (P : Pl) (S : Sy) : Prop where
  l : ∀ k, k < P.n → JL P k (mine k S.told) (S.jb k).a (S.jb k).s.isSome (doneB P k (S.jb k))
  o : ∀ k, k < P.n → (S.jb k).o = owns P k (S.jb k).a
/-- .. while k asks -/
structure LogsA (P : Pl) (k : Nat) (S : Sy) : Prop where
  l : ∀ q, q < P.n → q ≠ k → JL P q (mine q S.told) (S.jb q).a (S.jb q).s.isSome (doneB P q (S.jb q))
  o : ∀ q, q < P.n → q ≠ k → (S.jb q).o = owns P q (S.jb q).a
theorem mine_ne {k q : Nat} {t : List Hap} {e : Hap} (h : e.nm = (q : Int)) (hne : k ≠ q) : mine k (t ++ [e]) = mine k t := by
  rw [mine_app, if_neg (by rw [h]; omega)]
theorem mine_eq {k : Nat} {t : List Hap} {e : Hap} (h : e.nm = (k : Int)) : mine k (t ++ [e]) = mine k t ++ [e] := by
  rw [mine_app, if_pos h]
theorem doneB_on {P : Pl} {k : Nat} {j : Jo} (h : j.s.isSome = true) : doneB P k j = false := by
  unfold doneB
  cases e : j.s with
  | none => rw [e] at h; cases h
  | some v => simp
theorem doneB_lt {P : Pl} {k : Nat} {j : Jo} (h : j.a < (P.T k).length) : doneB P k j = false := by
  unfold doneB
  rw [decide_eq_false (show ¬ j.a = (P.T k).length by omega)]
  simp
theorem logs_run {P : Pl} (hP : POk P) : Logs P (go P (S0 P)).1 := by
  refine run_ind hP (fun L S => Logs P S) (fun L _ _ S => Logs P S) ⟨fun k hk => ?_, fun k hk => rfl⟩ (fun L S hL h hA => ?_) (fun L S q hL h hq hA => hA) (fun L S k i hL h hk hs hi hA => ?_) (fun L S q i hL h hq hi he hA => hA)
  · have : doneB P k ((S0 P).jb k) = false := by
      unfold doneB
      by_cases c : 0 < (P.T k).length
      · rw [decide_eq_false (show ¬ ((S0 P).jb k).a = (P.T k).length by show ¬ 0 = _; omega)]
        simp
      · rw [decide_eq_false c]; rfl
    rw [this]
    exact .nil
  · refine lets_ind hP h hA fun f k ws t hi hB hst => ?_
    obtain ⟨k1, k2, k3⟩ := (hi.wt k).mp List.mem_cons_self
    have k2 : (f k).s = none := k2
    have k3 : (f k).a < (P.T k).length := k3
    refine ⟨fun q hq => ?_, fun q hq => ?_⟩
    · have hl := hB.l q hq
      dsimp only at hl ⊢
      by_cases c : q = k
      · subst c
        have e : upd f q { f q with s := some (L + 1) } q = { f q with s := some (L + 1) } := upd_same
        have d0 : doneB P q (f q) = false := doneB_lt k3
        rw [k2, d0] at hl
        rw [mine_eq (show (Hap.two "on" (q : Int)).nm = (q : Int) from rfl), e, doneB_on (show ({ f q with s := some (L + 1) } : Jo).s.isSome = true from rfl)]
        exact .on hl k3
      · rw [upd_ne c, mine_ne (show (Hap.two "on" (k : Int)).nm = (k : Int) from rfl) c]
        exact hl
    · have ho := hB.o q hq
      dsimp only at ho ⊢
      by_cases c : q = k
      · subst c
        rw [upd_same]
        exact ho
      · rw [upd_ne c]; exact ho
  · have hw := word_own h hk
    refine request_ev (B0 := fun R => LogsA P k R ∧ JL P k (mine k R.told) (S.jb k).a true false) (B1 := fun M => LogsA P k M ∧ JL P k (mine k M.told) ((S.jb k).a + 1) true false ∧ (M.jb k).o = owns P k ((S.jb k).a + 1)) hP hL h hk hs (fun hlt hi0 => ?_) (fun R hR hRk hf hh hB => ?_) (fun hi0 hh hB => ?_) (fun R hR hRk hheld hh hB => ?_) (fun M m1 m2 m3 hB => ?_) (fun M m1 m2 m3 hB => ?_)
    · have e0 : ∀ q, q ≠ k → (asked P k S).jb q = S.jb q := fun q hq => upd_ne hq
      refine ⟨⟨fun q hq hne => by rw [e0 q hne]; exact hA.l q hq, fun q hq hne => by rw [e0 q hne]; exact hA.o q hq⟩, ?_⟩
      have := hA.l k hk
      rw [hs, doneB_on hs] at this
      exact this
    · obtain ⟨hB, hB2⟩ := hB
      have hl : (R.jb k).h.length < P.F := by
        have := asked_less hP h hk hs hh
        have e1 : (asked P k S).jb k = ask P k (S.jb k) := upd_same
        rw [hRk, ← e1]; exact this
      obtain ⟨p1, p2, p3, p4⟩ := pick_ok (other_on hR hk hf hl)
      obtain ⟨q1, q2⟩ := on_mem.mp p1
      have f0 : ∀ q, q ≠ pick P k R.jb → (roomOnce P k R).jb q = R.jb q := fun q hq => upd_ne hq
      have f1 : (roomOnce P k R).jb (pick P k R.jb) = left (R.jb (pick P k R.jb)) := upd_same
      have hn : (Hap.two "off" (pick P k R.jb : Int)).nm = (pick P k R.jb : Int) := rfl
      refine ⟨⟨fun q hq hne => ?_, fun q hq hne => ?_⟩, ?_⟩
      · show JL P q (mine q (R.told ++ [_])) _ _ _
        by_cases c : q = pick P k R.jb
        · rw [c, f1, mine_eq hn]
          have := hB.l _ q1 p2
          rw [q2, doneB_on q2] at this
          have hlt : (R.jb (pick P k R.jb)).a < (P.T (pick P k R.jb)).length := by
            have h1 := hR.ale _ q1
            have h2 : (R.jb (pick P k R.jb)).a ≠ (P.T (pick P k R.jb)).length := fun e => by
              have := hR.dn _ q1 (fun e => p2 (Option.some.inj e).symm) e
              rw [this] at q2; cases q2
            omega
          have d0 : doneB P (pick P k R.jb) (left (R.jb (pick P k R.jb))) = false := doneB_lt hlt
          rw [d0]
          exact .off this
        · rw [f0 q c, mine_ne hn c]; exact hB.l q hq hne
      · by_cases c : q = pick P k R.jb
        · rw [c, f1]; exact hB.o _ q1 p2
        · rw [f0 q c]; exact hB.o q hq hne
      · show JL P k (mine k (R.told ++ [_])) _ _ _
        rw [mine_ne hn (Ne.symm p2)]
        exact hB2
    · obtain ⟨hB, hB2⟩ := hB
      have hlt : (S.jb k).a < (P.T k).length := (asked_inv hP h hk hs).1
      have e1 : (asked P k S).jb k = ask P k (S.jb k) := upd_same
      have hnown : pg (P.T k) (S.jb k).a ∈ wn (P.W k) (P.T k) (S.jb k).a := Classical.byContradiction fun z => by
        have := hw.mpr z
        rw [hh] at this
        exact absurd this (by decide)
      refine ⟨⟨fun q hq hne => ?_, fun q hq hne => hB.o q hq hne⟩, ?_, ?_⟩
      · show JL P q (mine q ((asked P k S).told ++ [_])) _ _ _
        rw [mine_ne (show (Hap.three "hit" (k : Int) (pageAt P k (S.jb k))).nm = (k : Int) from rfl) hne]
        exact hB.l q hq hne
      · show JL P k (mine k ((asked P k S).told ++ [_])) _ _ _
        rw [mine_eq (show (Hap.three "hit" (k : Int) (pageAt P k (S.jb k))).nm = (k : Int) from rfl)]
        exact .ask hB2 hlt (.inr (.inr rfl)) ⟨fun z => absurd z (by decide), fun z => absurd hnown z⟩
      · show ((asked P k S).jb k).o = _
        rw [e1]
        unfold owns
        rw [sumTo_succ, if_pos hnown]
        exact hA.o k hk
    · obtain ⟨hB, hB2⟩ := hB
      have hlt : (S.jb k).a < (P.T k).length := (asked_inv hP h hk hs).1
      have hn : (Hap.three (word P k (S.jb k)) (k : Int) (pageAt P k (S.jb k))).nm = (k : Int) := rfl
      have f0 : ∀ q, q ≠ k → (setJ R k (gets (ask P k (S.jb k)) (word P k (S.jb k)) (pageAt P k (S.jb k)))).jb q = R.jb q := fun q hq => upd_ne hq
      have f1 : (setJ R k (gets (ask P k (S.jb k)) (word P k (S.jb k)) (pageAt P k (S.jb k)))).jb k = gets (ask P k (S.jb k)) (word P k (S.jb k)) (pageAt P k (S.jb k)) := upd_same
      refine ⟨⟨fun q hq hne => ?_, fun q hq hne => ?_⟩, ?_, ?_⟩
      · show JL P q (mine q (R.told ++ [_])) ((setJ R k _).jb q).a _ _
        rw [mine_ne hn hne]
        have := hB.l q hq hne
        rw [← f0 q hne] at this
        exact this
      · show ((setJ R k _).jb q).o = owns P q ((setJ R k _).jb q).a
        rw [f0 q hne]; exact hB.o q hq hne
      · show JL P k (mine k (R.told ++ [_])) _ _ _
        rw [mine_eq hn]
        refine .ask hB2 hlt ?_ hw
        rcases word_cases P k (S.jb k) with w | w | w
        · exact absurd w hh
        · exact .inr (.inl w)
        · exact .inl w
      · show ((setJ R k _).jb k).o = _
        rw [f1]
        unfold owns
        rw [sumTo_succ]
        show (if word P k (S.jb k) = ("own" : PySem.Str) then (S.jb k).o + 1 else (S.jb k).o) = _
        have := hA.o k hk
        unfold owns at this
        by_cases c : pg (P.T k) (S.jb k).a ∈ wn (P.W k) (P.T k) (S.jb k).a
        · rw [if_pos c, if_neg fun z => hw.mp z c, this]
          rfl
        · rw [if_neg c, if_pos (hw.mpr c), this]
    · obtain ⟨hB, hB2, hB3⟩ := hB
      have hn : (Hap.two "done" (k : Int)).nm = (k : Int) := rfl
      have f0 : ∀ q, q ≠ k → (setJ M k (left (M.jb k))).jb q = M.jb q := fun q hq => upd_ne hq
      have f1 : (setJ M k (left (M.jb k))).jb k = left (M.jb k) := upd_same
      refine ⟨fun q hq => ?_, fun q hq => ?_⟩
      · show JL P q (mine q (M.told ++ [_])) ((setJ M k (left (M.jb k))).jb q).a _ _
        by_cases c : q = k
        · subst c
          rw [mine_eq hn]
          show JL P q _ ((setJ M q (left (M.jb q))).jb q).a ((setJ M q (left (M.jb q))).jb q).s.isSome (doneB P q ((setJ M q (left (M.jb q))).jb q))
          rw [f1]
          have hd : doneB P q (left (M.jb q)) = true := by
            unfold doneB
            have hlt : (S.jb q).a < (P.T q).length := (asked_inv hP h hk hs).1
            rw [decide_eq_true (show 0 < (P.T q).length by omega), decide_eq_true (show (left (M.jb q)).a = (P.T q).length from m3)]
            rfl
          rw [hd]
          show JL P q _ (M.jb q).a false true
          rw [m1]
          exact .done hB2 (by rw [← m1]; exact m3)
        · rw [mine_ne hn c]
          have := hB.l q hq c
          rw [← f0 q c] at this
          exact this
      · show ((setJ M k (left (M.jb k))).jb q).o = owns P q ((setJ M k (left (M.jb k))).jb q).a
        by_cases c : q = k
        · subst c
          rw [f1]
          show (M.jb q).o = owns P q (M.jb q).a
          rw [hB3, m1]
        · rw [f0 q c]; exact hB.o q hq c
    · obtain ⟨hB, hB2, hB3⟩ := hB
      refine ⟨fun q hq => ?_, fun q hq => ?_⟩
      · by_cases c : q = k
        · subst c
          have e : (M.jb q).s.isSome = true := by rw [m2]; exact hs
          rw [doneB_on e, e, m1]
          exact hB2
        · exact hB.l q hq c
      · by_cases c : q = k
        · subst c; rw [hB3, m1]
        · exact hB.o q hq c
end Tu
namespace Tu
open J
def steps (l : List Hap) : List PySem.Str := (l.filter fun e => decide (e.len = 2)).map Hap.wd
def asks (l : List Hap) : List Hap := l.filter fun e => decide (e.len = 3)
def rep (m : Nat) : List PySem.Str := (List.replicate m [("on" : PySem.Str), "off"]).flatten
def tailW (o d : Bool) : List PySem.Str := if o = true then ["on"] else if d = true then ["on", "done"] else []
theorem rep_succ (m : Nat) : rep (m + 1) = rep m ++ ([("on" : PySem.Str), "off"] : List PySem.Str) := by
  unfold rep
  rw [List.replicate_succ', List.flatten_append]
  rfl
theorem rep_len (m : Nat) : (rep m).length = 2 * m := by
  induction m with
  | zero => rfl
  | succ m ih => rw [rep_succ, List.length_append, ih]; rfl
theorem JL.steps {P : Pl} {k : Nat} {l : List Hap} {a : Nat} {o d : Bool} (h : JL P k l a o d) : (o = true → d = false) ∧ ∃ m, Tu.steps l = rep m ++ tailW o d := by
  induction h with
  | nil => exact ⟨fun _ => rfl, 0, rfl⟩
  | @on l a _ _ ih =>
    obtain ⟨_, m, ih⟩ := ih
    refine ⟨fun _ => rfl, m, ?_⟩
    unfold Tu.steps at *
    rw [List.filter_append, List.map_append, ih]
    show (rep m ++ []) ++ ([("on" : PySem.Str)] : List PySem.Str) = _
    rw [List.append_nil]
    rfl
  | @off l a _ ih =>
    obtain ⟨_, m, ih⟩ := ih
    refine ⟨fun e => (by cases e), m + 1, ?_⟩
    unfold Tu.steps at *
    rw [List.filter_append, List.map_append, ih, rep_succ]
    show (rep m ++ ([("on" : PySem.Str)] : List PySem.Str)) ++ ([("off" : PySem.Str)] : List PySem.Str) = (rep m ++ ([("on" : PySem.Str), "off"] : List PySem.Str)) ++ []
    rw [List.append_nil, List.append_assoc]
    rfl
  | @ask l a w _ _ _ _ ih =>
    obtain ⟨h1, m, ih⟩ := ih
    refine ⟨fun _ => rfl, m, ?_⟩
    unfold Tu.steps at *
    rw [List.filter_append, List.map_append, ih]
    show (rep m ++ tailW true false) ++ [] = _
    rw [List.append_nil]
  | @done l a _ _ ih =>
    obtain ⟨_, m, ih⟩ := ih
    refine ⟨fun e => (by cases e), m, ?_⟩
    unfold Tu.steps at *
    rw [List.filter_append, List.map_append, ih]
    show (rep m ++ ([("on" : PySem.Str)] : List PySem.Str)) ++ ([("done" : PySem.Str)] : List PySem.Str) = rep m ++ ([("on" : PySem.Str), "done"] : List PySem.Str)
    rw [List.append_assoc]
    rfl
theorem JL.asks {P : Pl} {k : Nat} {l : List Hap} {a : Nat} {o d : Bool} (h : JL P k l a o d) : (Tu.asks l).length = a ∧ ∀ i, i < a → ∃ w, (Tu.asks l)[i]? = some (.three w (k : Int) (pg (P.T k) i)) ∧ (w = "own" ∨ w = "back" ∨ w = "hit") ∧ (w = "own" ↔ pg (P.T k) i ∉ wn (P.W k) (P.T k) i) := by
  induction h with
  | nil => exact ⟨rfl, fun i h => absurd h (by omega)⟩
  | on _ _ ih =>
    unfold Tu.asks at *
    rw [List.filter_append]
    show (_ ++ []).length = _ ∧ ∀ i, i < _ → ∃ w, (_ ++ ([] : List Hap))[i]? = _ ∧ _
    rw [List.append_nil]
    exact ih
  | off _ ih =>
    unfold Tu.asks at *
    rw [List.filter_append]
    show (_ ++ []).length = _ ∧ ∀ i, i < _ → ∃ w, (_ ++ ([] : List Hap))[i]? = _ ∧ _
    rw [List.append_nil]
    exact ih
  | @ask l a w _ h1 h2 h3 ih =>
    obtain ⟨i1, i2⟩ := ih
    unfold Tu.asks at *
    rw [List.filter_append]
    show (_ ++ [Hap.three w (k : Int) (pg (P.T k) a)]).length = _ ∧ ∀ i, i < a + 1 → ∃ w', (_ ++ [Hap.three w (k : Int) (pg (P.T k) a)])[i]? = _ ∧ _
    refine ⟨by rw [List.length_append, i1]; rfl, fun i hi => ?_⟩
    by_cases c : i < a
    · rw [List.getElem?_append_left (by omega)]
      exact i2 i c
    · have : i = a := by omega
      subst this
      rw [List.getElem?_append_right (by omega), i1, Nat.sub_self]
      exact ⟨w, rfl, h2, h3⟩
  | done _ _ ih =>
    unfold Tu.asks at *
    rw [List.filter_append]
    show (_ ++ []).length = _ ∧ ∀ i, i < _ → ∃ w, (_ ++ ([] : List Hap))[i]? = _ ∧ _
    rw [List.append_nil]
    exact ih
theorem JL.first {P : Pl} {k : Nat} {l : List Hap} {a : Nat} {o d : Bool} (h : JL P k l a o d) : (l = [] ∧ a = 0 ∧ o = false ∧ d = false) ∨ ∃ r, l = .two "on" (k : Int) :: r := by
  induction h with
  | nil => exact .inl ⟨rfl, rfl, rfl, rfl⟩
  | on _ _ ih =>
    rcases ih with ⟨rfl, _⟩ | ⟨r, rfl⟩
    · exact .inr ⟨[], rfl⟩
    · exact .inr ⟨_, rfl⟩
  | off _ ih =>
    rcases ih with ⟨_, _, e, _⟩ | ⟨r, rfl⟩
    · cases e
    · exact .inr ⟨_, rfl⟩
  | ask _ _ _ _ ih =>
    rcases ih with ⟨_, _, e, _⟩ | ⟨r, rfl⟩
    · cases e
    · exact .inr ⟨_, rfl⟩
  | done _ _ ih =>
    rcases ih with ⟨_, _, e, _⟩ | ⟨r, rfl⟩
    · cases e
    · exact .inr ⟨_, rfl⟩
theorem JL.none {P : Pl} {k : Nat} {l : List Hap} {a : Nat} {o d : Bool} (h : JL P k l a o d) (hT : P.T k = []) : l = [] ∧ o = false := by
  induction h with
  | nil => exact ⟨rfl, rfl⟩
  | on _ h _ => rw [hT] at h; cases h
  | off _ ih => cases ih.2
  | ask _ _ _ _ ih => cases ih.2
  | done _ _ ih => cases ih.2
theorem steps_fm (l : List Hap) : l.filterMap (fun e => if decide (e.len = 2) = true then some e.wd else Option.none) = Tu.steps l := by
  unfold Tu.steps
  induction l with
  | nil => rfl
  | cons x l ih =>
    rw [List.filterMap_cons, List.filter_cons, ih]
    by_cases c : decide (x.len = 2) = true
    · rw [if_pos c, if_pos c]; rfl
    · rw [if_neg c, if_neg c]
theorem JL.last {P : Pl} {k : Nat} {l : List Hap} {a : Nat} {o : Bool} (h : JL P k l a o true) : a = (P.T k).length ∧ o = false ∧ ∃ r, l = r ++ [.two "done" (k : Int)] := by
  cases h with
  | done h e => exact ⟨e, rfl, _, rfl⟩
def trStep (Q : Int) (s : Option Int × Int) (e : Hap) : Option (Option Int × Int) :=
  if e.len = 3 then (if some e.nm ≠ s.1 ∧ s.2 % Q ≠ 0 then none else some (some e.nm, if some e.nm = s.1 then s.2 + 1 else 1))
  else some (if some e.nm = s.1 ∧ e.wd ≠ "on" then (none, 0) else s)
def tr (Q : Int) (t : List Hap) : Option (Option Int × Int) := t.foldlM (trStep Q) (none, 0)
theorem tr_app (Q : Int) (t : List Hap) (e : Hap) : tr Q (t ++ [e]) = (tr Q t).bind fun s => trStep Q s e := by
  unfold tr
  rw [List.foldlM_append]
  show (_ >>= fun s => [e].foldlM (trStep Q) s) = _
  cases t.foldlM (trStep Q) ((none, 0) : Option Int × Int) with
  | none => rfl
  | some s =>
    show (trStep Q s e >>= fun s' => some s') = trStep Q s e
    cases trStep Q s e <;> rfl
def Rows (P : Pl) (S : Sy) : Prop := ∃ here run, tr (P.Q : Int) S.told = some (here, run) ∧ run % (P.Q : Int) = 0
def RowsK (P : Pl) (k i : Nat) (S : Sy) : Prop := ∃ here run, tr (P.Q : Int) S.told = some (here, run) ∧ (0 < i → (S.jb k).s.isSome = true → here = some (k : Int) ∧ run % (P.Q : Int) = (i : Int) % (P.Q : Int)) ∧ (i = 0 ∨ (S.jb k).s = none → run % (P.Q : Int) = 0)
theorem rows_off {Q : Int} {h : Option Int} {r : Int} {w : PySem.Str} {q : Int} : ∃ h' r', trStep Q (h, r) (.two w q) = some (h', r') ∧ (r % Q = 0 → r' % Q = 0) ∧ (h ≠ some q → h' = h ∧ r' = r) := by
  unfold trStep
  rw [if_neg (show ¬ (Hap.two w q).len = 3 from show ¬ (2 : Int) = 3 by decide)]
  by_cases c : some (Hap.two w q).nm = (h, r).1 ∧ (Hap.two w q).wd ≠ "on"
  · rw [if_pos c]
    exact ⟨none, 0, rfl, fun _ => Int.zero_emod _, fun z => absurd c.1.symm z⟩
  · rw [if_neg c]
    exact ⟨h, r, rfl, id, fun _ => ⟨rfl, rfl⟩⟩
theorem rows_run {P : Pl} (hP : POk P) : Rows P (go P (S0 P)).1 := by
  have hQ := hP.q
  refine run_ind hP (fun L S => Rows P S) (fun L k i S => RowsK P k i S) ⟨none, 0, rfl, Int.zero_emod _⟩ (fun L S hL h hA => ?_) (fun L S k hL h hk hA => ?_) (fun L S k i hL h hk hs hi hA => ?_) (fun L S k i hL h hk hi he hA => ?_)
  · refine lets_ind hP h hA fun f k ws t hi hB hst => ?_
    obtain ⟨here, run, e1, e2⟩ := hB
    obtain ⟨h', r', e3, e4, _⟩ := rows_off (Q := (P.Q : Int)) (h := here) (r := run) (w := "on") (q := (k : Int))
    refine ⟨h', r', ?_, e4 e2⟩
    show tr _ (t ++ [_]) = _
    rw [tr_app]
    have e1 : tr (P.Q : Int) t = some (here, run) := e1
    rw [e1]
    exact e3
  · obtain ⟨here, run, e1, e2⟩ := hA
    exact ⟨here, run, e1, fun z => absurd z (by omega), fun _ => e2⟩
  · obtain ⟨here, run, e1, e2, e3⟩ := hA
    -- i = 0: any row that is whole; else a row of k's own
    let Cond : Option Int → Int → Prop := fun here run => (0 < i → here = some (k : Int) ∧ run % (P.Q : Int) = (i : Int) % (P.Q : Int)) ∧ (i = 0 → run % (P.Q : Int) = 0)
    have hreq : ∀ (here : Option Int) (run : Int) (w : PySem.Str) (p : Int), Cond here run → ∃ run', trStep (P.Q : Int) (here, run) (.three w (k : Int) p) = some (some (k : Int), run') ∧ run' % (P.Q : Int) = ((i + 1 : Nat) : Int) % (P.Q : Int) := fun here run w p hc => by
      have hn : (Hap.three w (k : Int) p).nm = (k : Int) := rfl
      unfold trStep
      rw [if_pos (show (Hap.three w (k : Int) p).len = 3 from rfl), hn]
      have hmod : ∀ r : Int, r % (P.Q : Int) = (i : Int) % (P.Q : Int) → (r + 1) % (P.Q : Int) = ((i + 1 : Nat) : Int) % (P.Q : Int) := fun r hr => by
        rw [show ((i + 1 : Nat) : Int) = (i : Int) + 1 by omega, Int.add_emod, hr, ← Int.add_emod]
      by_cases c : some (k : Int) = here
      · rw [if_neg (show ¬ (some (k : Int) ≠ here ∧ run % (P.Q : Int) ≠ 0) from fun z => z.1 c), if_pos c]
        refine ⟨_, rfl, hmod run ?_⟩
        by_cases z : i = 0
        · rw [hc.2 z, z]; exact (Int.zero_emod _).symm
        · exact (hc.1 (by omega)).2
      · have z : i = 0 := Classical.byContradiction fun z => c (hc.1 (by omega)).1.symm
        rw [if_neg (show ¬ (some (k : Int) ≠ here ∧ run % (P.Q : Int) ≠ 0) from fun y => y.2 (hc.2 z)), if_neg c]
        refine ⟨_, rfl, ?_⟩
        rw [z]
        rfl
    refine request_ev (B0 := fun R => ∃ here run, tr (P.Q : Int) R.told = some (here, run) ∧ Cond here run) (B1 := fun M => ∃ run, tr (P.Q : Int) M.told = some (some (k : Int), run) ∧ run % (P.Q : Int) = ((i + 1 : Nat) : Int) % (P.Q : Int)) hP hL h hk hs (fun _ _ => ⟨here, run, e1, fun z => e2 z hs, fun z => e3 (.inl z)⟩) (fun R hR hRk hf hh hB => ?_) (fun _ hh hB => ?_) (fun R hR hRk hheld hh hB => ?_) (fun M m1 m2 m3 hB => ?_) (fun M m1 m2 m3 hB => ?_)
    · obtain ⟨here, run, e1, hc⟩ := hB
      have hl : (R.jb k).h.length < P.F := by
        have := asked_less hP h hk hs hh
        have e1 : (asked P k S).jb k = ask P k (S.jb k) := upd_same
        rw [hRk, ← e1]; exact this
      obtain ⟨p1, p2, p3, p4⟩ := pick_ok (other_on hR hk hf hl)
      obtain ⟨h', r', e3, e4, e5⟩ := rows_off (Q := (P.Q : Int)) (h := here) (r := run) (w := "off") (q := (pick P k R.jb : Int))
      refine ⟨h', r', ?_, fun z => ?_, fun z => e4 (hc.2 z)⟩
      · show tr _ (R.told ++ [_]) = _
        rw [tr_app, e1]
        exact e3
      · have hh := (hc.1 z).1
        have := e5 (by rw [hh]; exact fun y => p2 (by have := Option.some.inj y; omega))
        rw [this.1, this.2]
        exact hc.1 z
    · obtain ⟨here, run, e1, hc⟩ := hB
      obtain ⟨r', e2, e3⟩ := hreq here run "hit" (pageAt P k (S.jb k)) hc
      refine ⟨r', ?_, e3⟩
      show tr _ ((asked P k S).told ++ [_]) = _
      rw [tr_app, e1]
      exact e2
    · obtain ⟨here, run, e1, hc⟩ := hB
      obtain ⟨r', e2, e3⟩ := hreq here run (word P k (S.jb k)) (pageAt P k (S.jb k)) hc
      refine ⟨r', ?_, e3⟩
      show tr _ (R.told ++ [_]) = _
      rw [tr_app, e1]
      exact e2
    · obtain ⟨run, e1, e2⟩ := hB
      refine ⟨none, 0, ?_, fun _ z => ?_, fun _ => Int.zero_emod _⟩
      · show tr _ (M.told ++ [_]) = _
        rw [tr_app, e1]
        show trStep (P.Q : Int) (some (k : Int), run) (.two "done" (k : Int)) = _
        unfold trStep
        rw [if_neg (show ¬ (Hap.two "done" (k : Int)).len = 3 from show ¬ (2 : Int) = 3 by decide), if_pos (show some (Hap.two "done" (k : Int)).nm = (some (k : Int), run).1 ∧ (Hap.two "done" (k : Int)).wd ≠ "on" from ⟨rfl, show ("done" : PySem.Str) ≠ "on" by decide⟩)]
      · have e9 : (setJ M k (left (M.jb k))).jb k = left (M.jb k) := upd_same
        have z : ((setJ M k (left (M.jb k))).jb k).s.isSome = true := z
        rw [e9] at z
        cases z
    · obtain ⟨run, e1, e2⟩ := hB
      refine ⟨some (k : Int), run, e1, fun _ _ => ⟨rfl, e2⟩, fun z => ?_⟩
      rcases z with z | z
      · omega
      · rw [m2] at z; rw [z] at hs; cases hs
  · obtain ⟨here, run, e1, e2, e3⟩ := hA
    refine ⟨here, run, e1, ?_⟩
    by_cases c : i = 0 ∨ (S.jb k).s = none
    · exact e3 c
    · have c1 : ¬ i = 0 := fun z => c (.inl z)
      have c2 : (S.jb k).s.isSome = true := by
        cases e : (S.jb k).s with
        | none => exact absurd (.inr e) c
        | some v => rfl
      have := (e2 (by omega) c2).2
      rcases he with z | z
      · rw [this, z]; exact Int.emod_self
      · rw [z] at c2; cases c2
end Tu
namespace Gk31
open J
open Tu
open PySem (PyData)
theorem e_bag : @m_law_bag = @Tu.m_law_bag := rfl
theorem e_lot : @m_law_lot = @Tu.m_law_lot := rfl
theorem e_many : @m_law_many = @Tu.m_law_many := rfl
theorem e_size : @m_law_size = @Tu.m_law_size := rfl
theorem e_story : @m_story = @Tu.m_story := rfl
theorem e_faults : @m_job_faults = @Tu.m_job_faults := rfl
theorem work_ok {xs : List Int} {w : Nat} (hw : 1 ≤ w ∧ w ≤ 300) (hl : xs.length ≤ 200) : m_working xs (w : Int) = some ((List.range xs.length).map fun k => bh w xs (k + 1)) := by
  unfold m_working
  have e1 : m_need_window (w : Int) (w : Int) = some () := by
    unfold m_need_window
    rw [if_neg (by simp; omega)]
  rw [e1, Option.bind_some, rngG_ok (by omega), Option.bind_some, Int.toNat_natCast]
  rw [lcM_map (g := fun x : Int => bh w xs (x.toNat + 1)) (fun x hx => ?_) (by rw [rng_len]; omega)]
  · show some _ = some _
    refine congrArg some ?_
    unfold rng
    rw [List.map_map]
    refine List.map_congr_left fun k _ => ?_
    show bh w xs (((0 : Int) + (k : Int)).toNat + 1) = _
    rw [Int.zero_add, Int.toNat_natCast]
  · have hx := rng_mem hx
    obtain ⟨k, rfl⟩ : ∃ k : Nat, x = (k : Int) := ⟨x.toNat, by omega⟩
    unfold m_working_c0
    rw [bh_cut (by omega) (by omega)]
    simp only [Option.bind_some, Int.toNat_natCast]
open PySem.W (T3 Tup)
/-- what each request is told as -/
def El (w : Nat) (xs : List Int) (k : Nat) : T3 Int PySem.Str (Tup Int) := ⟨pg xs k, if decide (pg xs k ∈ wn w xs k) = true then ("hit" : PySem.Str) else ("fault" : PySem.Str), ⟨gn w xs k⟩⟩
def Wl (w : Nat) (xs : List Int) : List (T3 Int PySem.Str (Tup Int)) := (List.range xs.length).map (El w xs)
theorem range_snoc {α : Type} {f : Nat → α} {k : Nat} : (List.range (k + 1)).map f = (List.range k).map f ++ [f k] := by
  rw [List.range_succ, List.map_append]
  rfl
theorem walk_ok {xs : List Int} {w : Nat} (hw : 1 ≤ w ∧ w ≤ 300) (hl : xs.length ≤ 200) : m_window_walk xs (w : Int) = some (Wl w xs) := by
  unfold m_window_walk
  rw [work_ok hw hl, Option.bind_some]
  have hz : (List.zip xs ((List.range xs.length).map fun k => bh w xs (k + 1))).length = xs.length := by
    rw [List.length_zip, List.length_map, List.length_range, Nat.min_self]
  obtain ⟨s, e, h1, _⟩ := forM_ix (f := m_window_walk_b1) (fun k s => s.1 = (List.range k).map (El w xs) ∧ s.2 = bh w xs k) (xs := List.zip xs ((List.range xs.length).map fun k => bh w xs (k + 1))) (n := 0) (s := (([] : List (T3 Int PySem.Str (Tup Int))), ([] : List Int))) ⟨rfl, by simp [bh, wn, sset]⟩ (fun k x s hx hI => by
    have hk : k < xs.length := by
      rw [← hz]
      exact (List.getElem?_eq_some_iff.mp hx).1
    rw [Nat.zero_add] at hI ⊢
    obtain ⟨i1, i2⟩ := hI
    have ex : x = (pg xs k, bh w xs (k + 1)) := by
      rw [List.getElem?_zip_eq_some] at hx
      obtain ⟨z1, z2⟩ := hx
      rw [pg_at hk] at z1
      rw [List.getElem?_map, List.getElem?_range hk] at z2
      exact Prod.ext (Option.some.inj z1).symm (Option.some.inj z2).symm
    subst ex
    unfold m_window_walk_b1
    rw [i1, i2]
    have eW : (J.ifM (decide (pg xs k ∈ bh w xs k)) (some ("hit" : PySem.Str)) (some ("fault" : PySem.Str))) = some (if decide (pg xs k ∈ wn w xs k) = true then ("hit" : PySem.Str) else ("fault" : PySem.Str)) := by
      unfold J.ifM
      have : decide (pg xs k ∈ bh w xs k) = decide (pg xs k ∈ wn w xs k) := decide_eq_decide.mpr bh_mem
      rw [this]
      split <;> rfl
    have eL : J.lcM (m_window_walk_c0 (pg xs k, bh w xs (k + 1))) (bh w xs k) () = some (gn w xs k, ()) := by
      rw [lcM_filter (p := fun x => decide (x ∉ bh w xs (k + 1))) (fun x _ => ?_) ?_, gone_eq hw.1 hk]
      · have : (bh w xs k).length ≤ (wn w xs k).length := sset_len _
        unfold wn at this
        rw [List.length_take, List.length_reverse, List.length_take] at this
        omega
      · unfold m_window_walk_c0
        dsimp only
        split <;> rfl
    dsimp only
    rw [eW, Option.bind_some, eL, Option.bind_some, psh_ok (by rw [List.length_map, List.length_range]; omega), Option.bind_some]
    exact ⟨_, rfl, range_snoc.symm, rfl⟩)
  rw [e, Option.bind_some, h1, hz, Nat.zero_add]
  rfl
theorem faults_count {xs : List Int} {w : Nat} (a : Nat) : (((List.range a).map (El w xs)).filter fun x => decide (x.b = ("fault" : PySem.Str))).length = sumTo a fun i => if pg xs i ∈ wn w xs i then 0 else 1 := by
  induction a with
  | zero => rfl
  | succ a ih =>
    rw [range_snoc, List.filter_append, List.length_append, ih, sumTo_succ]
    congr 1
    unfold El
    by_cases z : pg xs a ∈ wn w xs a
    · rw [if_pos (decide_eq_true z), if_pos z]; rfl
    · rw [if_neg (show ¬ decide (pg xs a ∈ wn w xs a) = true from fun y => z (of_decide_eq_true y)), if_neg z]; rfl
theorem told_len {lot : List (List Int × Int)} {F Q : Nat} (h : PlanOk lot F Q) : (fin lot F Q).1.told.length ≤ 200000 := by
  have hP := plOf_ok h
  obtain ⟨⟨h1, h2, _⟩, _⟩ := fin_inv h
  have hr := rq_total h1
  have ht := total_le hP
  exact told_lt hP (by omega) h1
theorem pages_of {l : List Hap} {P : Pl} {k a : Nat} (h1 : l.length = a) (ha : a ≤ (P.T k).length) (h2 : ∀ i, i < a → ∃ w, l[i]? = some (Hap.three w (k : Int) (pg (P.T k) i)) ∧ (w = "own" ∨ w = "back" ∨ w = "hit") ∧ (w = "own" ↔ pg (P.T k) i ∉ wn (P.W k) (P.T k) i)) : (∀ e ∈ l, ∃ p, e.pg = some p) ∧ l.map (fun e => e.pg.getD 0) = (P.T k).take a := by
  refine ⟨fun e he => ?_, ?_⟩
  · obtain ⟨i, hi, rfl⟩ := List.getElem_of_mem he
    obtain ⟨w, e1, _⟩ := h2 i (by omega)
    rw [List.getElem?_eq_getElem hi] at e1
    rw [Option.some.inj e1]
    exact ⟨_, rfl⟩
  · apply List.ext_getElem?
    intro i
    rw [List.getElem?_map]
    by_cases c : i < a
    · obtain ⟨w, e1, _⟩ := h2 i c
      rw [e1, List.getElem?_take_of_lt c, pg_at (by omega)]
      rfl
    · rw [List.getElem?_eq_none (by omega), List.getElem?_eq_none (by rw [List.length_take]; omega)]
      rfl
theorem right_ok {lot : List (List Int × Int)} {F Q k : Nat} (h : PlanOk lot F Q) (hF : F ≤ 300) (hk : k < lot.length) : m_law_one_right (fin lot F Q).1.told (k : Int) ((plOf lot F Q).T k) ((plOf lot F Q).W k : Int) = some true := by
  have hP := plOf_ok h
  have hl := told_len h
  have hT := hP.t k hk
  have hW := hP.w k hk
  have hW : 1 ≤ (plOf lot F Q).W k ∧ (plOf lot F Q).W k ≤ F := hW
  have hlog := (logs_run hP).l k hk
  have hlog : JL (plOf lot F Q) k (mine k (fin lot F Q).1.told) ((fin lot F Q).1.jb k).a ((fin lot F Q).1.jb k).s.isSome (doneB (plOf lot F Q) k ((fin lot F Q).1.jb k)) := hlog
  obtain ⟨d1, d2⟩ := fin_done h k hk
  rw [d1, d2, show (none : Option Nat).isSome = false from rfl] at hlog
  unfold m_law_one_right
  rw [lcM_filter (p := fun e => decide (e.nm = (k : Int))) (fun x _ => by
    unfold m_law_one_right_c0
    split <;> rfl) (by omega), Option.bind_some]
  have em : (fin lot F Q).1.told.filter (fun e => decide (e.nm = (k : Int))) = mine k (fin lot F Q).1.told := rfl
  dsimp only
  rw [em]
  have hml : (mine k (fin lot F Q).1.told).length ≤ 200000 := Nat.le_trans (List.length_filter_le _ _) hl
  generalize mine k (fin lot F Q).1.told = l at *
  by_cases c : (plOf lot F Q).T k = []
  · rw [if_pos (decide_eq_true c)]
    rcases hlog.first with ⟨e, _⟩ | ⟨r, e⟩
    · rw [e]; rfl
    · rw [(hlog.none c).1] at e
      cases e
  · have hpos : 0 < ((plOf lot F Q).T k).length := List.length_pos_iff.mpr c
    rw [if_neg (show ¬ decide ((plOf lot F Q).T k = []) = true from fun y => c (of_decide_eq_true y))]
    have hd : doneB (plOf lot F Q) k ((fin lot F Q).1.jb k) = true := by
      unfold doneB
      rw [decide_eq_true hpos, decide_eq_true d1, d2]
      rfl
    rw [hd] at hlog
    obtain ⟨_, m, hs⟩ := hlog.steps
    obtain ⟨a1, a2⟩ := hlog.asks
    rw [lcM_fm (g := fun e => if decide (e.len = 2) = true then some e.wd else none) (fun x _ => by
      unfold m_law_one_right_c1
      split <;> rfl) (by omega), Option.bind_some]
    have es := steps_fm l
    dsimp only
    rw [es, hs]
    have hm : m ≤ 100000 := by
      have h1 : (steps l).length ≤ l.length := by
        unfold steps
        rw [List.length_map]
        exact List.length_filter_le _ _
      rw [hs, List.length_append, rep_len] at h1
      omega
    have el : (((rep m ++ tailW false true).length : Nat) : Int) / 2 - 1 = (m : Int) := by
      rw [List.length_append, rep_len]
      show ((2 * m + 2 : Nat) : Int) / 2 - 1 = _
      omega
    have er : J.repG ([("on" : PySem.Str), ("off" : PySem.Str)] : List PySem.Str) (m : Int) = some (rep m) := by
      unfold J.repG rep
      rw [if_pos ⟨⟨by omega, by omega⟩, by show 2 * _ ≤ _; omega⟩, Int.toNat_natCast]
    rw [el, er, Option.bind_some, catG_ok (by rw [rep_len]; show 2 * m + 2 ≤ _; omega), Option.bind_some]
    rw [if_neg (show ¬ decide (rep m ++ tailW false true ≠ rep m ++ ([("on" : PySem.Str), ("done" : PySem.Str)] : List PySem.Str)) = true from fun y => (of_decide_eq_true y) rfl)]
    rw [lcM_filter (p := fun e => decide (e.len = 3)) (fun x _ => by
      unfold m_law_one_right_c2
      split <;> rfl) (by omega), Option.bind_some]
    have ea : l.filter (fun e => decide (e.len = 3)) = asks l := rfl
    dsimp only
    rw [ea]
    obtain ⟨r, hr⟩ := hlog.first.resolve_left fun z => by have := z.2.2.2; cases this
    obtain ⟨_, _, r2, hr2⟩ := hlog.last
    have g0 : gx l 0 = some (.two "on" (k : Int)) := by rw [hr]; rfl
    have g1 : gx l (-1) = some (.two "done" (k : Int)) := by
      rw [hr2]
      unfold gx
      rw [if_neg (by decide), List.length_append]
      show (if -((r2.length + 1 : Nat) : Int) ≤ (-1 : Int) then (r2 ++ [Hap.two "done" (k : Int)])[((-1 : Int) + ((r2.length + 1 : Nat) : Int)).toNat]? else none) = _
      rw [if_pos (by omega), show ((-1 : Int) + ((r2.length + 1 : Nat) : Int)).toNat = r2.length by omega, List.getElem?_append_right (Nat.le_refl _), Nat.sub_self]
      rfl
    obtain ⟨p1, p2⟩ := pages_of a1 (Nat.le_refl _) a2
    have ec3 : lcM m_law_one_right_c3 (asks l) () = some ((plOf lot F Q).T k, ()) := by
      rw [lcM_map (g := fun e : Hap => e.pg.getD 0) (fun x hx => ?_) (by rw [a1]; omega), p2, List.take_length]
      obtain ⟨p, hp⟩ := p1 x hx
      unfold m_law_one_right_c3
      rw [hp]
      rfl
    rw [g0, Option.bind_some, g1, Option.bind_some, ec3, Option.bind_some]
    have e3 : J.orM (decide ((Hap.two "on" (k : Int)).wd ≠ ("on" : PySem.Str))) ((J.orM (decide ((Hap.two "done" (k : Int)).wd ≠ ("done" : PySem.Str))) (some (decide ((plOf lot F Q).T k ≠ (plOf lot F Q).T k)))).bind fun x22 => some x22) = some false := by
      unfold J.orM
      simp [Hap.wd]
    dsimp only
    rw [e3, Option.bind_some, if_neg (by decide), walk_ok (by omega) hT, Option.bind_some, rngG_ok (by omega), Option.bind_some, Int.toNat_natCast]
    have ef : ∀ xs : List Int, (∀ x ∈ xs, 0 ≤ x ∧ x < (((plOf lot F Q).T k).length : Int)) → forL (m_law_one_right_b4 (asks l, ()) (Wl ((plOf lot F Q).W k) ((plOf lot F Q).T k))) xs () = some (.inl ()) := fun xs => by
      induction xs with
      | nil => intro _; rfl
      | cons x xs ih =>
        intro hx
        have hx0 := hx x List.mem_cons_self
        obtain ⟨i, rfl⟩ : ∃ i : Nat, x = (i : Int) := ⟨x.toNat, by omega⟩
        have hi : i < ((plOf lot F Q).T k).length := by omega
        obtain ⟨w, e1, e2, e4⟩ := a2 i hi
        have h1 : gx (asks l) (i : Int) = some (.three w (k : Int) (pg ((plOf lot F Q).T k) i)) := by
          rw [gx_nat (by omega), Int.toNat_natCast]
          exact e1
        have h2 : gx (Wl ((plOf lot F Q).W k) ((plOf lot F Q).T k)) (i : Int) = some (El ((plOf lot F Q).W k) ((plOf lot F Q).T k) i) := by
          rw [gx_nat (by omega), Int.toNat_natCast]
          unfold Wl
          rw [List.getElem?_map, List.getElem?_range hi]
          rfl
        have hb : m_law_one_right_b4 (asks l, ()) (Wl ((plOf lot F Q).W k) ((plOf lot F Q).T k)) () (i : Int) = some (.nx ()) := by
          unfold m_law_one_right_b4
          dsimp only
          rw [h1, Option.bind_some, h2, Option.bind_some, Option.bind_some]
          have e5 : decide ((El ((plOf lot F Q).W k) ((plOf lot F Q).T k) i).b = ("fault" : PySem.Str)) = decide (pg ((plOf lot F Q).T k) i ∉ wn ((plOf lot F Q).W k) ((plOf lot F Q).T k) i) := by
            unfold El
            by_cases z : pg ((plOf lot F Q).T k) i ∈ wn ((plOf lot F Q).W k) ((plOf lot F Q).T k) i
            · rw [if_pos (decide_eq_true z), decide_eq_false (show ¬ _ ∉ _ from fun y => y z)]; rfl
            · rw [if_neg (show ¬ decide (pg ((plOf lot F Q).T k) i ∈ wn ((plOf lot F Q).W k) ((plOf lot F Q).T k) i) = true from fun y => z (of_decide_eq_true y)), decide_eq_true z]; rfl
          have e6 : decide ((Hap.three w (k : Int) (pg ((plOf lot F Q).T k) i)).wd = ("own" : PySem.Str)) = decide (pg ((plOf lot F Q).T k) i ∉ wn ((plOf lot F Q).W k) ((plOf lot F Q).T k) i) := decide_eq_decide.mpr e4
          rw [e5, e6]
          have e7 : decide ((Hap.three w (k : Int) (pg ((plOf lot F Q).T k) i)).wd ∉ ([("own" : PySem.Str), ("back" : PySem.Str), ("hit" : PySem.Str)] : List PySem.Str)) = false := by
            refine decide_eq_false fun y => y ?_
            show w ∈ _
            rcases e2 with z | z | z <;> (rw [z]; simp)
          rw [e7]
          unfold J.orM
          simp
        show (m_law_one_right_b4 (asks l, ()) (Wl ((plOf lot F Q).W k) ((plOf lot F Q).T k)) () (i : Int)).bind _ = _
        rw [hb]
        exact ih fun y hy => hx y (List.mem_cons_of_mem _ hy)
    rw [ef _ fun x hx => by have := rng_mem hx; omega]
    rfl
theorem row_ok {Q : Int} (hQ : 1 ≤ Q ∧ Q ≤ 1000) (s : Option Int × Int) (e : Hap) : m_law_turns_right_b0 Q s e = some (match trStep Q s e with | none => .rt false | some s' => .nx s') := by
  unfold m_law_turns_right_b0 trStep
  by_cases c : e.len = 3
  · rw [if_pos (decide_eq_true c), if_pos c, modG_ok (by omega), Option.bind_some]
    by_cases d : some e.nm = s.1
    · have e1 : J.andM (decide (some e.nm ≠ s.1)) (some (decide (s.2 % Q ≠ 0))) = some false := by
        unfold J.andM
        rw [decide_eq_false (fun z => z d)]
        rfl
      rw [e1, Option.bind_some, if_neg (by decide), if_neg (show ¬ (some e.nm ≠ s.1 ∧ s.2 % Q ≠ 0) from fun z => z.1 d)]
      unfold J.ifM
      rw [if_pos (decide_eq_true d), if_pos d]
      rfl
    · have e1 : J.andM (decide (some e.nm ≠ s.1)) (some (decide (s.2 % Q ≠ 0))) = some (decide (s.2 % Q ≠ 0)) := by
        unfold J.andM
        rw [decide_eq_true d]
        rfl
      rw [e1, Option.bind_some]
      by_cases z : s.2 % Q ≠ 0
      · rw [if_pos (decide_eq_true z), if_pos ⟨d, z⟩]
      · rw [if_neg (show ¬ decide (s.2 % Q ≠ 0) = true from fun y => z (of_decide_eq_true y)), if_neg (show ¬ (some e.nm ≠ s.1 ∧ s.2 % Q ≠ 0) from fun y => z y.2)]
        unfold J.ifM
        rw [if_neg (show ¬ decide (some e.nm = s.1) = true from fun y => d (of_decide_eq_true y)), if_neg d]
        rfl
  · rw [if_neg (show ¬ decide (e.len = 3) = true from fun y => c (of_decide_eq_true y)), if_neg c]
    by_cases d : some e.nm = s.1 ∧ e.wd ≠ "on"
    · rw [if_pos (show (decide (some e.nm = s.1) && decide (e.wd ≠ ("on" : PySem.Str))) = true by rw [Bool.and_eq_true]; exact ⟨decide_eq_true d.1, decide_eq_true d.2⟩), if_pos d]
      rfl
    · rw [if_neg (show ¬ (decide (some e.nm = s.1) && decide (e.wd ≠ ("on" : PySem.Str))) = true from fun y => d (by rw [Bool.and_eq_true] at y; exact ⟨of_decide_eq_true y.1, of_decide_eq_true y.2⟩)), if_neg d]
      rfl
theorem rows_ok {Q : Int} (hQ : 1 ≤ Q ∧ Q ≤ 1000) : ∀ (t : List Hap) (s s' : Option Int × Int), t.foldlM (trStep Q) s = some s' → forL (m_law_turns_right_b0 Q) t s = some (.inl s')
  | [], s, s', h => by
    have h : some s = some s' := h
    cases h
    rfl
  | e :: t, s, s', h => by
    rw [List.foldlM_cons] at h
    show (m_law_turns_right_b0 Q s e).bind _ = _
    rw [row_ok hQ]
    cases q : trStep Q s e with
    | none => rw [q] at h; cases h
    | some s2 =>
      rw [q] at h
      exact rows_ok hQ t s2 s' h
theorem law_true (ns : List Int) (hl : ns.length ≤ 63) : m_law ns = some true := by
  have key : Tot (m_law ns) fun r => r = true := by
    unfold m_law
    rw [e_bag, e_lot]
    refine tot_bind (Tu.bag_ok hl) fun b hb => ?_
    refine tot_bind (Tu.lot_ok hb (by omega)) fun x3 h3 => ?_
    obtain ⟨⟨l1, l2⟩, hb⟩ := h3
    rw [rngG_ok (by omega)]
    refine tot_let ?_
    refine tot_bind (tot_forL (I := fun k s => Tu.Bg (7000 + 10 * k) b.2.1 s.2 s.1) (K := 2) (k := 0) (hb.mono (by omega)) rfl fun k s x _ hk hI => ?_) fun o ho => ?_
    · unfold m_law_b2
      rw [e_many, e_size]
      refine tot_bind (Tu.many_ok hI ⟨l1, l2⟩ (by omega) (by omega) (by omega)) fun x12 h12 => ?_
      obtain ⟨⟨f1, f2, f3⟩, hb⟩ := h12
      refine tot_bind (Tu.size_ok hb (by omega)) fun x13 h13 => ?_
      obtain ⟨⟨q1, q2⟩, hb⟩ := h13
      obtain ⟨F, hF⟩ : ∃ F : Nat, x12.1 = F := ⟨x12.1.toNat, by omega⟩
      obtain ⟨Q, hQ⟩ : ∃ Q : Nat, x13.1 = Q := ⟨x13.1.toNat, by omega⟩
      rw [hF] at f1 f2 f3
      rw [hQ] at q1 q2
      have hp : Tu.PlanOk x3.1 F Q := ⟨by omega, fun e he => ⟨(l2 e he).1.1, (l2 e he).2.1, f1 e he⟩, by omega, by omega⟩
      have hP := plOf_ok hp
      rw [hF, hQ, e_story, e_faults, Tu.story_ok hp, Tu.faults_ok hp]
      refine tot_let (tot_let ?_)
      have e1 : decide ((((List.range x3.1.length).map fun k => ((((fin x3.1 F Q).1.jb k).o : Int), (((fin x3.1 F Q).1.jb k).b : Int))).length : Int) ≠ (x3.1.length : Int)) = false := decide_eq_false (by rw [List.length_map, List.length_range]; exact fun z => z rfl)
      obtain ⟨here, run, r1, r2⟩ := rows_run hP
      have r1 : (fin x3.1 F Q).1.told.foldlM (trStep (Q : Int)) (none, 0) = some (here, run) := r1
      have e2 : m_law_turns_right (fin x3.1 F Q).1.told (Q : Int) = some true := by
        unfold m_law_turns_right
        rw [rows_ok (by omega) _ _ _ r1]
        rfl
      rw [e1, e2]
      have e3 : J.orM false ((some true).bind fun x16 => some (!x16)) = some false := rfl
      rw [e3]
      refine tot_let ?_
      rw [if_neg (by decide), rngG_ok (by omega)]
      refine tot_let ?_
      have inner : ∀ xs : List Int, (∀ x ∈ xs, 0 ≤ x ∧ x < (x3.1.length : Int)) → forL (m_law_b1 x3 (fin x3.1 F Q).1.told ((List.range x3.1.length).map fun k => ((((fin x3.1 F Q).1.jb k).o : Int), (((fin x3.1 F Q).1.jb k).b : Int)))) xs () = some (.inl ()) := fun xs => by
        induction xs with
        | nil => intro _; rfl
        | cons y xs ih =>
          intro hx
          have hy := hx y List.mem_cons_self
          obtain ⟨k, rfl⟩ : ∃ k : Nat, y = (k : Int) := ⟨y.toNat, by omega⟩
          have hk : k < x3.1.length := by omega
          have hm := l2 _ (List.getElem_mem hk)
          have eg : gx x3.1 (k : Int) = some ((plOf x3.1 F Q).T k, ((plOf x3.1 F Q).W k : Int)) := by
            rw [gx_nat (by omega), Int.toNat_natCast, List.getElem?_eq_getElem hk]
            have e9 : x3.1.getD k ([], 1) = x3.1[k] := by rw [List.getD_eq_getElem?_getD, List.getElem?_eq_getElem hk]; rfl
            show some x3.1[k] = some ((x3.1.getD k ([], 1)).1, ((((x3.1.getD k ([], 1)).2).toNat : Nat) : Int))
            rw [e9]
            refine congrArg some (Prod.ext rfl ?_)
            show x3.1[k].2 = ((x3.1[k].2.toNat : Nat) : Int)
            omega
          have hT := hP.t k hk
          have hW : 1 ≤ (plOf x3.1 F Q).W k ∧ (plOf x3.1 F Q).W k ≤ F := hP.w k hk
          have hb : m_law_b1 x3 (fin x3.1 F Q).1.told ((List.range x3.1.length).map fun k => ((((fin x3.1 F Q).1.jb k).o : Int), (((fin x3.1 F Q).1.jb k).b : Int))) () (k : Int) = some (.nx ()) := by
            unfold m_law_b1
            rw [eg, Option.bind_some]
            dsimp only
            rw [walk_ok (by omega) hT, Option.bind_some]
            rw [lcM_fm (g := fun x : T3 Int PySem.Str (Tup Int) => if decide (x.b = ("fault" : PySem.Str)) = true then some (1 : Int) else none) (fun x _ => by
              unfold m_law_c0
              split <;> rfl) (by unfold Wl; rw [List.length_map, List.length_range]; omega), Option.bind_some]
            rw [right_ok hp (by omega) hk, Option.bind_some]
            have ec : ((((Wl ((plOf x3.1 F Q).W k) ((plOf x3.1 F Q).T k)).filterMap fun x : T3 Int PySem.Str (Tup Int) => if decide (x.b = ("fault" : PySem.Str)) = true then some (1 : Int) else none)).length : Int) = (owns (plOf x3.1 F Q) k ((plOf x3.1 F Q).T k).length : Nat) := by
              have := faults_count (xs := (plOf x3.1 F Q).T k) (w := (plOf x3.1 F Q).W k) ((plOf x3.1 F Q).T k).length
              unfold owns
              rw [← this]
              unfold Wl
              congr 1
              induction (List.range ((plOf x3.1 F Q).T k).length).map (El ((plOf x3.1 F Q).W k) ((plOf x3.1 F Q).T k)) with
              | nil => rfl
              | cons x l ih =>
                rw [List.filterMap_cons, List.filter_cons]
                by_cases c : decide (x.b = ("fault" : PySem.Str)) = true
                · rw [if_pos c, if_pos c, List.length_cons, List.length_cons, ih]
                · rw [if_neg c, if_neg c, ih]
            have eo := (logs_run hP).o k hk
            have eo : ((fin x3.1 F Q).1.jb k).o = owns (plOf x3.1 F Q) k ((fin x3.1 F Q).1.jb k).a := eo
            rw [(fin_done hp k hk).1] at eo
            dsimp only
            have eg2 : gx ((List.range x3.1.length).map fun k => ((((fin x3.1 F Q).1.jb k).o : Int), (((fin x3.1 F Q).1.jb k).b : Int))) (k : Int) = some ((((fin x3.1 F Q).1.jb k).o : Int), (((fin x3.1 F Q).1.jb k).b : Int)) := by
              rw [gx_nat (by omega), Int.toNat_natCast, List.getElem?_map, List.getElem?_range hk]
              rfl
            rw [ec, eg2, Option.bind_some, eo]
            unfold J.orM
            simp
          show (m_law_b1 x3 _ _ () (k : Int)).bind _ = _
          rw [hb]
          exact ih fun z hz => hx z (List.mem_cons_of_mem _ hz)
      rw [inner _ fun x hx => by have := rng_mem hx; omega]
      refine tot_let ?_
      rw [Sum.elim_inl]
      exact tot_some ⟨_, rfl, hb.mono (by omega)⟩
    · obtain ⟨s, rfl, _⟩ := ho
      exact tot_some rfl
  obtain ⟨r, e, rfl⟩ := key
  exact e
end Gk31
namespace Gk31
open PySem PySem.Spec PyProof.Rows L2
def h__law_bag : He.DefD := ⟨("_law_bag", none), "_law_bag", "_law_bag", defArgs s__law_bag, defBody s__law_bag, defScope s__law_bag, [], []⟩
def h__law_draw : He.DefD := ⟨("_law_draw", none), "_law_draw", "_law_draw", defArgs s__law_draw, defBody s__law_draw, defScope s__law_draw, [], []⟩
def h__law_pages : He.DefD := ⟨("_law_pages", none), "_law_pages", "_law_pages", defArgs s__law_pages, defBody s__law_pages, defScope s__law_pages, [], []⟩
def h__law_line : He.DefD := ⟨("_law_line", none), "_law_line", "_law_line", defArgs s__law_line, defBody s__law_line, defScope s__law_line, [], []⟩
def h__law_lot : He.DefD := ⟨("_law_lot", none), "_law_lot", "_law_lot", defArgs s__law_lot, defBody s__law_lot, defScope s__law_lot, [], []⟩
def h__law_many : He.DefD := ⟨("_law_many", none), "_law_many", "_law_many", defArgs s__law_many, defBody s__law_many, defScope s__law_many, [], []⟩
def h__law_size : He.DefD := ⟨("_law_size", none), "_law_size", "_law_size", defArgs s__law_size, defBody s__law_size, defScope s__law_size, [], []⟩
def h_need_window : He.DefD := ⟨("need_window", none), "need_window", "need_window", defArgs s_need_window, defBody s_need_window, defScope s_need_window, [], []⟩
def h_Job_init : He.DefD := ⟨("Job", some "__init__"), "__init__", "Job.__init__", defArgs s_Job_init, defBody s_Job_init, defScope s_Job_init, [], []⟩
def h_Job_is_done : He.DefD := ⟨("Job", some "is_done"), "is_done", "Job.is_done", defArgs s_Job_is_done, defBody s_Job_is_done, defScope s_Job_is_done, [], []⟩
def h_Plan_init : He.DefD := ⟨("Plan", some "__init__"), "__init__", "Plan.__init__", defArgs s_Plan_init, defBody s_Plan_init, defScope s_Plan_init, [], []⟩
def h_Job_is_on : He.DefD := ⟨("Job", some "is_on"), "is_on", "Job.is_on", defArgs s_Job_is_on, defBody s_Job_is_on, defScope s_Job_is_on, [], []⟩
def h_Plan_on_now : He.DefD := ⟨("Plan", some "on_now"), "on_now", "Plan.on_now", defArgs s_Plan_on_now, defBody s_Plan_on_now, defScope s_Plan_on_now, [], []⟩
def h_Job_working_pages : He.DefD := ⟨("Job", some "working_pages"), "working_pages", "Job.working_pages", defArgs s_Job_working_pages, defBody s_Job_working_pages, defScope s_Job_working_pages, [], []⟩
def h_Plan_let_on : He.DefD := ⟨("Plan", some "let_on"), "let_on", "Plan.let_on", defArgs s_Plan_let_on, defBody s_Plan_let_on, defScope s_Plan_let_on, [], []⟩
def h_Job_ask : He.DefD := ⟨("Job", some "ask"), "ask", "Job.ask", defArgs s_Job_ask, defBody s_Job_ask, defScope s_Job_ask, [], []⟩
def h_Job_leave : He.DefD := ⟨("Job", some "leave"), "leave", "Job.leave", defArgs s_Job_leave, defBody s_Job_leave, defScope s_Job_leave, [], []⟩
def h_Plan_make_room : He.DefD := ⟨("Plan", some "make_room"), "make_room", "Plan.make_room", defArgs s_Plan_make_room, defBody s_Plan_make_room, defScope s_Plan_make_room, [], []⟩
def h_Plan_request : He.DefD := ⟨("Plan", some "request"), "request", "Plan.request", defArgs s_Plan_request, defBody s_Plan_request, defScope s_Plan_request, [], []⟩
def h_Plan_take_turn : He.DefD := ⟨("Plan", some "take_turn"), "take_turn", "Plan.take_turn", defArgs s_Plan_take_turn, defBody s_Plan_take_turn, defScope s_Plan_take_turn, [], []⟩
def h_Plan_go : He.DefD := ⟨("Plan", some "go"), "go", "Plan.go", defArgs s_Plan_go, defBody s_Plan_go, defScope s_Plan_go, [], []⟩
def h_played : He.DefD := ⟨("played", none), "played", "played", defArgs s_played, defBody s_played, defScope s_played, [], []⟩
def h_story : He.DefD := ⟨("story", none), "story", "story", defArgs s_story, defBody s_story, defScope s_story, [], [("turn", He.Dv.int 1)]⟩
def h_job_faults : He.DefD := ⟨("job_faults", none), "job_faults", "job_faults", defArgs s_job_faults, defBody s_job_faults, defScope s_job_faults, [], [("turn", He.Dv.int 1)]⟩
def h__law_turns_right : He.DefD := ⟨("_law_turns_right", none), "_law_turns_right", "_law_turns_right", defArgs s__law_turns_right, defBody s__law_turns_right, defScope s__law_turns_right, [], []⟩
def h_working : He.DefD := ⟨("working", none), "working", "working", defArgs s_working, defBody s_working, defScope s_working, [], []⟩
def h_window_walk : He.DefD := ⟨("window_walk", none), "window_walk", "window_walk", defArgs s_window_walk, defBody s_window_walk, defScope s_window_walk, [], []⟩
def h__law_one_right : He.DefD := ⟨("_law_one_right", none), "_law_one_right", "_law_one_right", defArgs s__law_one_right, defBody s__law_one_right, defScope s__law_one_right, [], []⟩
def h_law : He.DefD := ⟨("law", none), "law", "law", defArgs s_law, defBody s_law, defScope s_law, [], []⟩
def fn : List He.DefD := [h__law_bag, h__law_draw, h__law_pages, h__law_line, h__law_lot, h__law_many, h__law_size, h_need_window, h_Job_init, h_Job_is_done, h_Plan_init, h_Job_is_on, h_Plan_on_now, h_Job_working_pages, h_Plan_let_on, h_Job_ask, h_Job_leave, h_Plan_make_room, h_Plan_request, h_Plan_take_turn, h_Plan_go, h_played, h_story, h_job_faults, h__law_turns_right, h_working, h_window_walk, h__law_one_right, h_law]
def fa : List He.Fa := [.glo "_law_bag", .glo "_law_draw", .glo "_law_pages", .glo "_law_line", .glo "_law_lot", .glo "_law_many", .glo "_law_size", .glo "need_window", .glo "played", .glo "story", .glo "job_faults", .glo "_law_turns_right", .glo "working", .glo "window_walk", .glo "_law_one_right", .glo "law", .glo "Job", .cls "Job", .glo "Plan", .cls "Plan", .noat "Job" "number", .noat "Job" "trace", .noat "Job" "window", .noat "Job" "at", .noat "Job" "pages_in", .noat "Job" "on_since", .noat "Job" "faults", .noat "Plan" "jobs", .noat "Plan" "frames_there", .noat "Plan" "turn", .noat "Plan" "waiting", .noat "Plan" "lettings", .noat "Plan" "told", .mkr "Job", .meth "Job" "is_done", .mkr "Plan", .meth "Job" "is_on", .meth "Plan" "on_now", .meth "Job" "working_pages", .meth "Plan" "let_on", .meth "Job" "ask", .meth "Job" "leave", .meth "Plan" "make_room", .meth "Plan" "request", .meth "Plan" "take_turn", .meth "Plan" "go", .str "OWN" "own", .str "BACK" "back", .str "HIT" "hit", .free "enumerate", .free "len", .free "max", .free "min", .free "range", .free "set", .free "sorted", .free "sum", .free "tuple", .free "zip"]
abbrev R : PySem.W.OpenRow := PySem.W.OpenLaw.row PySem.Challenge.rw_pagerooms_k31_whole_own_faults
abbrev hk : PySem.W.Hook := He.hookD 6 fa fn
def ob (s : PySem.W.SharedT) : He.AlD := He.obsDG 6 fa fn (HandSHeadRun.getT s)
theorem ob_eq (s : PySem.W.SharedT) : ob s = hk.obs s.abs := He.obsDG_eq (HandSHeadRun.getT_eq s)
theorem run (w : World) : HandSHeadRun.RunEq R (PySem.W.view R.prog [28]) hk ob 6000 ["PageError", "NoRoom", "NoWindow", "NoTurn", "need_window", "working", "window_walk", "OWN", "BACK", "HIT", "Job", "Plan", "played", "story", "job_faults", "_law_bag", "_law_draw", "_law_pages", "_law_line", "_law_lot", "_law_many", "_law_size", "_law_one_right", "_law_turns_right"] w := by
  intro os
  kernel_rfl
theorem facts {P : Program} {w : World} {K : PySem.W.Frag} {h : Heap} {mg : Str → Option Value} {f : Addr} (X : K.In h) (G : h.Ns mainGlobals mg) (hfa : mg ("law" : Str) = some (.ref f)) (c : He.SaysD fa fn K) :
    ∃ W : Wd K mg, (∀ (s : Shared) (v : Value), BindsTo s W.d_law ⟨[v], []⟩ [("script", v)]) ∧ ∀ base : Heap, K.In base → base.Ns mainGlobals mg → FnOk P w K mg base CX0 9 f W.d_law ["script"] (F_law W).sp := by
  obtain ⟨fd0, FD0⟩ := c.def_ 0 (d := h__law_bag) rfl
  obtain ⟨fd1, FD1⟩ := c.def_ 1 (d := h__law_draw) rfl
  obtain ⟨fd2, FD2⟩ := c.def_ 2 (d := h__law_pages) rfl
  obtain ⟨fd3, FD3⟩ := c.def_ 3 (d := h__law_line) rfl
  obtain ⟨fd4, FD4⟩ := c.def_ 4 (d := h__law_lot) rfl
  obtain ⟨fd5, FD5⟩ := c.def_ 5 (d := h__law_many) rfl
  obtain ⟨fd6, FD6⟩ := c.def_ 6 (d := h__law_size) rfl
  obtain ⟨fd7, FD7⟩ := c.def_ 7 (d := h_need_window) rfl
  obtain ⟨fd8, FD8⟩ := c.def_ 8 (d := h_Job_init) rfl
  obtain ⟨fd9, FD9⟩ := c.def_ 9 (d := h_Job_is_done) rfl
  obtain ⟨fd10, FD10⟩ := c.def_ 10 (d := h_Plan_init) rfl
  obtain ⟨fd11, FD11⟩ := c.def_ 11 (d := h_Job_is_on) rfl
  obtain ⟨fd12, FD12⟩ := c.def_ 12 (d := h_Plan_on_now) rfl
  obtain ⟨fd13, FD13⟩ := c.def_ 13 (d := h_Job_working_pages) rfl
  obtain ⟨fd14, FD14⟩ := c.def_ 14 (d := h_Plan_let_on) rfl
  obtain ⟨fd15, FD15⟩ := c.def_ 15 (d := h_Job_ask) rfl
  obtain ⟨fd16, FD16⟩ := c.def_ 16 (d := h_Job_leave) rfl
  obtain ⟨fd17, FD17⟩ := c.def_ 17 (d := h_Plan_make_room) rfl
  obtain ⟨fd18, FD18⟩ := c.def_ 18 (d := h_Plan_request) rfl
  obtain ⟨fd19, FD19⟩ := c.def_ 19 (d := h_Plan_take_turn) rfl
  obtain ⟨fd20, FD20⟩ := c.def_ 20 (d := h_Plan_go) rfl
  obtain ⟨fd21, FD21⟩ := c.def_ 21 (d := h_played) rfl
  obtain ⟨fd22, FD22⟩ := c.def_ 22 (d := h_story) rfl
  obtain ⟨fd23, FD23⟩ := c.def_ 23 (d := h_job_faults) rfl
  obtain ⟨fd24, FD24⟩ := c.def_ 24 (d := h__law_turns_right) rfl
  obtain ⟨fd25, FD25⟩ := c.def_ 25 (d := h_working) rfl
  obtain ⟨fd26, FD26⟩ := c.def_ 26 (d := h_window_walk) rfl
  obtain ⟨fd27, FD27⟩ := c.def_ 27 (d := h__law_one_right) rfl
  obtain ⟨fd28, FD28⟩ := c.def_ 28 (d := h_law) rfl
  have e := hfa.symm.trans (He.glo_ok X G (c.fact 15 (f := .glo "law") rfl))
  cases e
  have b := FunD.bindsA (ps := ["script"]) FD28 fun _ _ _ _ _ _ us hl => match us, hl with | [_], _ => rfl
  let W0 : Wd K mg := ⟨[],
      He.ga K "Job", He.glo_ok X G (c.fact 16 (f := .glo "Job") rfl), He.cls_ok (c.fact 17 (f := .cls "Job") rfl),
      He.ga K "Plan", He.glo_ok X G (c.fact 18 (f := .glo "Plan") rfl), He.cls_ok (c.fact 19 (f := .cls "Plan") rfl),
      He.noat_ok (c.fact 20 (f := .noat "Job" "number") rfl),
      He.noat_ok (c.fact 21 (f := .noat "Job" "trace") rfl),
      He.noat_ok (c.fact 22 (f := .noat "Job" "window") rfl),
      He.noat_ok (c.fact 23 (f := .noat "Job" "at") rfl),
      He.noat_ok (c.fact 24 (f := .noat "Job" "pages_in") rfl),
      He.noat_ok (c.fact 25 (f := .noat "Job" "on_since") rfl),
      He.noat_ok (c.fact 26 (f := .noat "Job" "faults") rfl),
      He.noat_ok (c.fact 27 (f := .noat "Plan" "jobs") rfl),
      He.noat_ok (c.fact 28 (f := .noat "Plan" "frames_there") rfl),
      He.noat_ok (c.fact 29 (f := .noat "Plan" "turn") rfl),
      He.noat_ok (c.fact 30 (f := .noat "Plan" "waiting") rfl),
      He.noat_ok (c.fact 31 (f := .noat "Plan" "lettings") rfl),
      He.noat_ok (c.fact 32 (f := .noat "Plan" "told") rfl),
      He.str_ok X G (c.fact 46 (f := .str "OWN" "own") rfl),
      He.str_ok X G (c.fact 47 (f := .str "BACK" "back") rfl),
      He.str_ok X G (c.fact 48 (f := .str "HIT" "hit") rfl),
      _, fd0, FD0, He.glo_ok X G (c.fact 0 (f := .glo "_law_bag") rfl), FD0.bindsN (ps := ["script"]) (fun _ _ _ _ _ _ us hl => match us, hl with | [_], _ => rfl),
      _, fd1, FD1, He.glo_ok X G (c.fact 1 (f := .glo "_law_draw") rfl), FD1.bindsN (ps := ["bag", "many"]) (fun _ _ _ _ _ _ us hl => match us, hl with | [_, _], _ => rfl),
      _, fd2, FD2, He.glo_ok X G (c.fact 2 (f := .glo "_law_pages") rfl), FD2.bindsN (ps := ["bag"]) (fun _ _ _ _ _ _ us hl => match us, hl with | [_], _ => rfl),
      _, fd3, FD3, He.glo_ok X G (c.fact 3 (f := .glo "_law_line") rfl), FD3.bindsN (ps := ["bag", "most"]) (fun _ _ _ _ _ _ us hl => match us, hl with | [_, _], _ => rfl),
      _, fd4, FD4, He.glo_ok X G (c.fact 4 (f := .glo "_law_lot") rfl), FD4.bindsN (ps := ["bag"]) (fun _ _ _ _ _ _ us hl => match us, hl with | [_], _ => rfl),
      _, fd5, FD5, He.glo_ok X G (c.fact 5 (f := .glo "_law_many") rfl), FD5.bindsN (ps := ["bag", "lot"]) (fun _ _ _ _ _ _ us hl => match us, hl with | [_, _], _ => rfl),
      _, fd6, FD6, He.glo_ok X G (c.fact 6 (f := .glo "_law_size") rfl), FD6.bindsN (ps := ["bag"]) (fun _ _ _ _ _ _ us hl => match us, hl with | [_], _ => rfl),
      _, fd7, FD7, He.glo_ok X G (c.fact 7 (f := .glo "need_window") rfl), FD7.bindsN (ps := ["window", "what"]) (fun _ _ _ _ _ _ us hl => match us, hl with | [_, _], _ => rfl),
      _, fd8, FD8, FD8.bindsN (ps := ["self", "number", "trace", "window"]) (fun _ _ _ _ _ _ us hl => match us, hl with | [_, _, _, _], _ => rfl), He.mkr_ok (c.fact 33 (f := .mkr "Job") rfl),
      _, fd9, FD9, FD9.bindsN (ps := ["self"]) (fun _ _ _ _ _ _ us hl => match us, hl with | [_], _ => rfl), He.meth_ok (c.fact 34 (f := .meth "Job" "is_done") rfl),
      _, fd10, FD10, FD10.bindsN (ps := ["self", "jobs", "frames", "turn"]) (fun _ _ _ _ _ _ us hl => match us, hl with | [_, _, _, _], _ => rfl), He.mkr_ok (c.fact 35 (f := .mkr "Plan") rfl),
      _, fd11, FD11, FD11.bindsN (ps := ["self"]) (fun _ _ _ _ _ _ us hl => match us, hl with | [_], _ => rfl), He.meth_ok (c.fact 36 (f := .meth "Job" "is_on") rfl),
      _, fd12, FD12, FD12.bindsN (ps := ["self"]) (fun _ _ _ _ _ _ us hl => match us, hl with | [_], _ => rfl), He.meth_ok (c.fact 37 (f := .meth "Plan" "on_now") rfl),
      _, fd13, FD13, FD13.bindsN (ps := ["self"]) (fun _ _ _ _ _ _ us hl => match us, hl with | [_], _ => rfl), He.meth_ok (c.fact 38 (f := .meth "Job" "working_pages") rfl),
      _, fd14, FD14, FD14.bindsN (ps := ["self"]) (fun _ _ _ _ _ _ us hl => match us, hl with | [_], _ => rfl), He.meth_ok (c.fact 39 (f := .meth "Plan" "let_on") rfl),
      _, fd15, FD15, FD15.bindsN (ps := ["self"]) (fun _ _ _ _ _ _ us hl => match us, hl with | [_], _ => rfl), He.meth_ok (c.fact 40 (f := .meth "Job" "ask") rfl),
      _, fd16, FD16, FD16.bindsN (ps := ["self"]) (fun _ _ _ _ _ _ us hl => match us, hl with | [_], _ => rfl), He.meth_ok (c.fact 41 (f := .meth "Job" "leave") rfl),
      _, fd17, FD17, FD17.bindsN (ps := ["self", "asking"]) (fun _ _ _ _ _ _ us hl => match us, hl with | [_, _], _ => rfl), He.meth_ok (c.fact 42 (f := .meth "Plan" "make_room") rfl),
      _, fd18, FD18, FD18.bindsN (ps := ["self", "job"]) (fun _ _ _ _ _ _ us hl => match us, hl with | [_, _], _ => rfl), He.meth_ok (c.fact 43 (f := .meth "Plan" "request") rfl),
      _, fd19, FD19, FD19.bindsN (ps := ["self", "job"]) (fun _ _ _ _ _ _ us hl => match us, hl with | [_, _], _ => rfl), He.meth_ok (c.fact 44 (f := .meth "Plan" "take_turn") rfl),
      _, fd20, FD20, FD20.bindsN (ps := ["self"]) (fun _ _ _ _ _ _ us hl => match us, hl with | [_], _ => rfl), He.meth_ok (c.fact 45 (f := .meth "Plan" "go") rfl),
      _, fd21, FD21, He.glo_ok X G (c.fact 8 (f := .glo "played") rfl), FD21.bindsN (ps := ["jobs", "frames", "turn"]) (fun _ _ _ _ _ _ us hl => match us, hl with | [_, _, _], _ => rfl),
      _, fd22, FD22, He.glo_ok X G (c.fact 9 (f := .glo "story") rfl),
      _, fd23, FD23, He.glo_ok X G (c.fact 10 (f := .glo "job_faults") rfl),
      _, fd24, FD24, He.glo_ok X G (c.fact 11 (f := .glo "_law_turns_right") rfl), FD24.bindsN (ps := ["told", "size"]) (fun _ _ _ _ _ _ us hl => match us, hl with | [_, _], _ => rfl),
      _, fd25, FD25, He.glo_ok X G (c.fact 12 (f := .glo "working") rfl), FD25.bindsN (ps := ["trace", "window"]) (fun _ _ _ _ _ _ us hl => match us, hl with | [_, _], _ => rfl),
      _, fd26, FD26, He.glo_ok X G (c.fact 13 (f := .glo "window_walk") rfl), FD26.bindsN (ps := ["trace", "window"]) (fun _ _ _ _ _ _ us hl => match us, hl with | [_, _], _ => rfl),
      _, fd27, FD27, He.glo_ok X G (c.fact 14 (f := .glo "_law_one_right") rfl), FD27.bindsN (ps := ["told", "k", "line", "wide"]) (fun _ _ _ _ _ _ us hl => match us, hl with | [_, _, _, _], _ => rfl),
      _, fd28, FD28, He.glo_ok X G (c.fact 15 (f := .glo "law") rfl), FD28.bindsN (ps := ["script"]) (fun _ _ _ _ _ _ us hl => match us, hl with | [_], _ => rfl),
      He.free_ok X G (c.fact 49 (f := .free "enumerate") rfl),
      He.free_ok X G (c.fact 50 (f := .free "len") rfl),
      He.free_ok X G (c.fact 51 (f := .free "max") rfl),
      He.free_ok X G (c.fact 52 (f := .free "min") rfl),
      He.free_ok X G (c.fact 53 (f := .free "range") rfl),
      He.free_ok X G (c.fact 54 (f := .free "set") rfl),
      He.free_ok X G (c.fact 55 (f := .free "sorted") rfl),
      He.free_ok X G (c.fact 56 (f := .free "sum") rfl),
      He.free_ok X G (c.fact 57 (f := .free "tuple") rfl),
      He.free_ok X G (c.fact 58 (f := .free "zip") rfl)⟩
  exact ⟨W0, fun s v => b s [v] rfl, fun base _ _ => ok_law (P := P) (w := w) (base := base) W0⟩
end Gk31
open PySem PySem.W PySem.Calls PyProof.Rows
theorem PySem.Challenge.cw_pagerooms_k31_whole_own_faults_holds : PySem.Challenge.rw_pagerooms_k31_whole_own_faults.Holds := by
  w_on; o_law
  refine HandSHeadRun.head_any (r := OpenLaw.row PySem.Challenge.rw_pagerooms_k31_whole_own_faults) (q := view (OpenLaw.row PySem.Challenge.rw_pagerooms_k31_whole_own_faults).prog [28]) (H := Gk31.hk) (ob := Gk31.ob) (M := 6000) (loose := ["PageError", "NoRoom", "NoWindow", "NoTurn", "need_window", "working", "window_walk", "OWN", "BACK", "HIT", "Job", "Plan", "played", "story", "job_faults", "_law_bag", "_law_draw", "_law_pages", "_law_line", "_law_lot", "_law_many", "_law_size", "_law_one_right", "_law_turns_right"]) (d := HandSHeadRun.topDef (OpenLaw.row PySem.Challenge.rw_pagerooms_k31_whole_own_faults).prog 28) (kwd := []) Gk31.ob_eq
    (by kernel_rfl) (fun s => by kernel_rfl) Gk31.run (by kernel_rfl) (by kernel_rfl) (by kernel_rfl) (by rfl) (by first | assumption | decide +kernel) (by decide +kernel) ⟨rfl, rfl, rfl, rfl, rfl, by decide +kernel⟩ ?hw ?hc
  case hw => w_witness2
  case hc =>
    refine L2.walk_ofE (l := PySem.Challenge.rw_pagerooms_k31_whole_own_faults) (n := 63) (k := 9) (x := "script") (CX := L2.CX0) rfl (by decide) (by kernel_rfl) ⟨rfl, by decide, by decide⟩ ?F (fun _ _ _ _ z => z)
    intro w mg fa h Y G hmg0
    obtain ⟨K, KX, c⟩ := Y
    have hmg : mg ("law" : PySem.Str) = some (.ref fa) := by
      have e : (HandSHeadRun.topDef (OpenLaw.row PySem.Challenge.rw_pagerooms_k31_whole_own_faults).prog 28).name = ("law" : PySem.Str) := by kernel_rfl
      rw [← e]
      exact hmg0
    obtain ⟨W, hb, hF⟩ := Gk31.facts (P := (PySem.Challenge.rw_pagerooms_k31_whole_own_faults).prog) (w := w) KX G hmg c
    exact ⟨K, W.d_law, (Gk31.F_law W).sp, KX, hb, fun H a ns hl _ hS => ⟨⟨a, ns, true⟩, ⟨H, H⟩, Gk31.law_true ns hl, hS, J.sta0, fun v H' h => J.out_true h⟩, hF⟩
