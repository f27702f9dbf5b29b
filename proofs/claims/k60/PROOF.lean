import PyProof.Rows.All
import PySem.Challenge.RW_pagerooms_k60_loose_told
import Wide.All
import OpenK.AllK
import Wide.FinOn
import HandS.ForMost
import KE.Datum
import HandS.Wide
import HandS.Walk
import HandS.SetFor
import KE.DatumIndex
import KE.DatumMore
import KE.DatumOrd
import KE.SortData
import HandS.Defaults
import HandS.Style
import HandS.Zip
import HandS.SortOrd
import HandS.SortInts
import HandS.IsInst
import HandS.WordsDict
import HandS.SortRule
import HandS.SortKw
import HandS.Conv
import HandS.Iter
import HandS.MakeKwOnly
import HandS.HeadHook4
import KE.GoesEnum
import HandS.Exc
import HandS.ExcOwn
import HandS.ExcInit
import HandS.ExcField
import HandS.ExcCtx
import KE.KExcIs
import KE.KIsAll
import HandS.Lambda
import KE.KMinKey
import HandS.HeadWalk
import KE.DatumMoreOrd
import KE.GoesEnumKw
import HandS.DictComp
import HandS.NoneIn
import HandS.TupLen
import HandS.DictTup
import PyProof.DictMoreH
import PyProof.ReprRoads
import HandS.MakeKw
import HandS.Head0
import HandS.Head1
import HandS.Head2
import HandS.HeadEnd
import HandS.HeadHook1
import HandS.HeadHook2
set_option Elab.async false
set_option linter.all false
set_option maxRecDepth 100000
set_option maxHeartbeats 0
namespace J
open PySem L2
open PySem.W (Datum)
/-! typed slots: what a value of the heap stands for -/
mutual
inductive Slot : Type 1 where
  | any
  | v (x : V)
  | val {α : Type} [DecidableEq α] [Datum α] (x : α)
  | own (c : Cel)
  | ownA (q : Addr) (c : Cel)
  | say (φ : (Addr → Option HO) → V → Prop)
  | otup (ss : List Slot)
inductive Cel : Type 1 where
  | lst (ss : List Slot)
  | ins (C : Addr) (fs : List (Str × Slot))
  | dk (ks : List Key) (ss : List Slot)
  | fdk (o : Obj) (gs : List (Key × V)) (ss : List Slot)
  | gone
  | say (ψ : (Addr → Option HO) → HO → Prop)
end
abbrev Ex (H H' : Hp) : Prop := ∀ a o, H a = some o → H' a = some o
theorem Ex.refl (H : Hp) : Ex H H := fun _ _ h => h
/-- what is said of a value for good -/
def Mono (φ : Hp → V → Prop) : Prop := ∀ G G' u, Ex G G' → φ G u → φ G' u
def MonoC (ψ : Hp → HO → Prop) : Prop := ∀ G G' o, Ex G G' → ψ G o → ψ G' o
theorem Ex.trans {H H1 H2 : Hp} (a : Ex H H1) (b : Ex H1 H2) : Ex H H2 := fun x o h => b x o (a x o h)
/-! data, by the heap alone -/
mutual
inductive Dq (H : Hp) : V → PyData → Prop where
  | non : Dq H .non .none
  | bl (b : Bool) : Dq H (.bl b) (.bool b)
  | int (i : Int) : Dq H (.int i) (.int i)
  | str (x : Str) : Dq H (.str x) (.str x)
  | lst {a : Addr} {xs : List V} {ds : List PyData} : H a = some (.lst xs) → DqAll H xs ds → Dq H (.ref a) (.list ds)
  | tup {a : Addr} {xs : List V} {ds : List PyData} : H a = some (.tup xs) → DqAll H xs ds → Dq H (.ref a) (.tuple ds)
inductive DqAll (H : Hp) : List V → List PyData → Prop where
  | nil : DqAll H [] []
  | cons {v : V} {vs : List V} {d : PyData} {ds : List PyData} : Dq H v d → DqAll H vs ds → DqAll H (v :: vs) (d :: ds)
end
mutual
theorem dq_mono {H H' : Hp} (e : Ex H H') : ∀ {d : PyData} {v : V}, Dq H v d → Dq H' v d
  | _, _, .non => .non
  | _, _, .bl b => .bl b
  | _, _, .int i => .int i
  | _, _, .str x => .str x
  | _, _, .lst h ha => .lst (e _ _ h) (dqAll_mono e ha)
  | _, _, .tup h ha => .tup (e _ _ h) (dqAll_mono e ha)
theorem dqAll_mono {H H' : Hp} (e : Ex H H') : ∀ {ds : List PyData} {vs : List V}, DqAll H vs ds → DqAll H' vs ds
  | _, _, .nil => .nil
  | _, _, .cons h1 h2 => .cons (dq_mono e h1) (dqAll_mono e h2)
end
mutual
theorem dq_dp {K : PySem.W.Frag} {H : Hp} : ∀ {d : PyData} {v : V}, Dq H v d → Dp K H v d
  | _, _, .non => .non
  | _, _, .bl b => .bl b
  | _, _, .int i => .int i
  | _, _, .str x => .str x
  | _, _, .lst h ha => .lst (.of h) (dqAll_dp ha)
  | _, _, .tup h ha => .tup (.of h) (dqAll_dp ha)
theorem dqAll_dp {K : PySem.W.Frag} {H : Hp} : ∀ {ds : List PyData} {vs : List V}, DqAll H vs ds → DpAll K H vs ds
  | _, _, .nil => .nil
  | _, _, .cons h1 h2 => .cons (dq_dp h1) (dqAll_dp h2)
end
/-- no tuple -/
def NT (o : HO) : Prop := ∀ xs, o ≠ .tup xs
/-! G: what is said for good; H: the heap; the addresses that are owned -/
mutual
inductive SlI (G H : Hp) : Slot → V → List Addr → Prop where
  | any {u} : SlI G H .any u []
  | v {u} : SlI G H (.v u) u []
  | val {α : Type} [DecidableEq α] [Datum α] {x : α} {u : V} : Dq G u (Datum.toD x) → SlI G H (.val x) u []
  | own {c : Cel} {p : Addr} {o : HO} {as : List Addr} : H p = some o → CeI G H c o as → SlI G H (.own c) (.ref p) (p :: as)
  | ownA {c : Cel} {q : Addr} {o : HO} {as : List Addr} : H q = some o → CeI G H c o as → SlI G H (.ownA q c) (.ref q) (q :: as)
  | say {φ : Hp → V → Prop} {u : V} : Mono φ → φ G u → SlI G H (.say φ) u []
  | otup {ss : List Slot} {vs : List V} {t : Addr} {as : List Addr} : G t = some (.tup vs) → SsI G H ss vs as → SlI G H (.otup ss) (.ref t) as
inductive CeI (G H : Hp) : Cel → HO → List Addr → Prop where
  | lst {ss : List Slot} {vs : List V} {as : List Addr} : SsI G H ss vs as → CeI G H (.lst ss) (.lst vs) as
  | ins {C dx : Addr} {fs : List (Str × Slot)} {gs : List (Str × V)} {as : List Addr} : fs.map (·.1) = gs.map (·.1) → SsI G H (fs.map (·.2)) (gs.map (·.2)) as → CeI G H (.ins C fs) (.ins C dx gs) as
  | dk {ks : List Key} {ss : List Slot} {gs : List (Key × V)} {as : List Addr} : ks = gs.map (·.1) → SsI G H ss (gs.map (·.2)) as → CeI G H (.dk ks ss) (.dK gs) as
  | fdk {ob : Obj} {ss : List Slot} {gs : List (Key × V)} {as : List Addr} : SsI G H ss (gs.map (·.2)) as → CeI G H (.fdk ob gs ss) (.frz ob (.dK gs)) as
  | say {ψ : Hp → HO → Prop} {o : HO} : MonoC ψ → ψ G o → NT o → CeI G H (.say ψ) o []
inductive SsI (G H : Hp) : List Slot → List V → List Addr → Prop where
  | nil : SsI G H [] [] []
  | cons {s : Slot} {u : V} {as : List Addr} {ss : List Slot} {vs : List V} {bs : List Addr} : SlI G H s u as → SsI G H ss vs bs → SsI G H (s :: ss) (u :: vs) (as ++ bs)
end
section
variable {G G' H H' : Hp}
mutual
theorem SlI.mono : ∀ {s : Slot} {u : V} {as : List Addr}, SlI G H s u as → Ex G G' → (∀ a ∈ as, H' a = H a) → SlI G' H' s u as
  | _, _, _, .any, _, _ => .any
  | _, _, _, .v, _, _ => .v
  | _, _, _, @SlI.val _ _ α i1 i2 x u h, e, _ => @SlI.val _ _ α i1 i2 x u (dq_mono e h)
  | _, _, _, .say m h, e, _ => .say m (m _ _ _ e h)
  | _, _, _, .otup ht h, e, f => .otup (e _ _ ht) (SsI.mono h e f)
  | _, _, _, .own hp hc, e, f => .own ((f _ List.mem_cons_self).trans hp) (CeI.mono hc e fun a ha => f a (List.mem_cons_of_mem _ ha))
  | _, _, _, .ownA hp hc, e, f => .ownA ((f _ List.mem_cons_self).trans hp) (CeI.mono hc e fun a ha => f a (List.mem_cons_of_mem _ ha))
theorem CeI.mono : ∀ {c : Cel} {o : HO} {as : List Addr}, CeI G H c o as → Ex G G' → (∀ a ∈ as, H' a = H a) → CeI G' H' c o as
  | _, _, _, .lst h, e, f => .lst (SsI.mono h e f)
  | _, _, _, .ins h1 h2, e, f => .ins h1 (SsI.mono h2 e f)
  | _, _, _, .dk h1 h2, e, f => .dk h1 (SsI.mono h2 e f)
  | _, _, _, .fdk h2, e, f => .fdk (SsI.mono h2 e f)
  | _, _, _, .say m h n, e, _ => .say m (m _ _ _ e h) n
theorem SsI.mono : ∀ {ss : List Slot} {vs : List V} {as : List Addr}, SsI G H ss vs as → Ex G G' → (∀ a ∈ as, H' a = H a) → SsI G' H' ss vs as
  | _, _, _, .nil, _, _ => .nil
  | _, _, _, .cons h1 h2, e, f => .cons (SlI.mono h1 e fun a ha => f a (List.mem_append_left _ ha)) (SsI.mono h2 e fun a ha => f a (List.mem_append_right _ ha))
end
theorem SsI.len : ∀ {ss : List Slot} {vs : List V} {as : List Addr}, SsI G H ss vs as → ss.length = vs.length
  | _, _, _, .nil => rfl
  | _, _, _, .cons _ h => congrArg Nat.succ (SsI.len h)
theorem SsI.app : ∀ {ss : List Slot} {vs : List V} {as : List Addr} {tt : List Slot} {us : List V} {bs : List Addr}, SsI G H ss vs as → SsI G H tt us bs → SsI G H (ss ++ tt) (vs ++ us) (as ++ bs)
  | _, _, _, _, _, _, .nil, h => h
  | _, _, _, _, _, _, .cons (as := as) (bs := bs) h1 h2, h => by
    rw [List.append_assoc]
    exact .cons h1 (SsI.app h2 h)
theorem SsI.split : ∀ {ss : List Slot} {vs : List V} {tt : List Slot} {us : List V} {cs : List Addr}, ss.length = vs.length → SsI G H (ss ++ tt) (vs ++ us) cs → ∃ as bs, cs = as ++ bs ∧ SsI G H ss vs as ∧ SsI G H tt us bs
  | [], [], _, _, cs, _, h => ⟨[], cs, rfl, .nil, h⟩
  | [], _ :: _, _, _, _, e, _ => nomatch e
  | _ :: _, [], _, _, _, e, _ => nomatch e
  | s :: ss, v :: vs, tt, us, _, e, .cons (as := a1) h1 h2 => by
    obtain ⟨as, bs, rfl, h3, h4⟩ := SsI.split (Nat.succ.inj e) h2
    exact ⟨a1 ++ as, bs, (List.append_assoc ..).symm, .cons h1 h3, h4⟩
inductive CsI (G H : Hp) : List (Addr × Cel) → List Addr → Prop where
  | nil : CsI G H [] []
  | gone {p : Addr} {cs : List (Addr × Cel)} {bs : List Addr} : CsI G H cs bs → CsI G H ((p, .gone) :: cs) bs
  | cons {p : Addr} {c : Cel} {o : HO} {as : List Addr} {cs : List (Addr × Cel)} {bs : List Addr} : H p = some o → CeI G H c o as → CsI G H cs bs → CsI G H ((p, c) :: cs) (p :: (as ++ bs))
theorem CsI.mono : ∀ {cs : List (Addr × Cel)} {bs : List Addr}, CsI G H cs bs → Ex G G' → (∀ a ∈ bs, H' a = H a) → CsI G' H' cs bs
  | _, _, .nil, _, _ => .nil
  | _, _, .gone h, e, f => .gone (CsI.mono h e f)
  | _, _, .cons hp hc h, e, f => .cons ((f _ List.mem_cons_self).trans hp) (hc.mono e fun a ha => f a (List.mem_cons_of_mem _ (List.mem_append_left _ ha))) (CsI.mono h e fun a ha => f a (List.mem_cons_of_mem _ (List.mem_append_right _ ha)))
theorem CsI.app : ∀ {cs ds : List (Addr × Cel)} {as bs : List Addr}, CsI G H cs as → CsI G H ds bs → CsI G H (cs ++ ds) (as ++ bs)
  | _, _, _, _, .nil, h => h
  | _, _, _, _, .gone h1, h => .gone (CsI.app h1 h)
  | _, _, _, _, .cons hp hc h1, h => by
    rw [List.cons_append, List.cons_append, List.append_assoc]
    exact .cons hp hc (CsI.app h1 h)
/-- the k-th cell, and the rest, that may be put together with another one -/
theorem CsI.at : ∀ {cs : List (Addr × Cel)} {bs : List Addr} (k : Nat) {p : Addr} {c : Cel}, CsI G H cs bs → cs[k]? = some (p, c) → c ≠ .gone →
    ∃ l o m r, bs = l ++ (p :: m) ++ r ∧ H p = some o ∧ CeI G H c o m ∧
      ∀ {G' H' : Hp}, Ex G G' → (∀ a ∈ l ++ r, H' a = H a) →
        (∀ {q : Addr} {c' : Cel} {o' : HO} {m' : List Addr}, H' q = some o' → CeI G' H' c' o' m' → CsI G' H' (cs.set k (q, c')) (l ++ (q :: m') ++ r)) ∧ ∀ q, CsI G' H' (cs.set k (q, .gone)) (l ++ r)
  | [], _, _, _, _, _, e, _ => by simp at e
  | _ :: cs, bs, 0, p, c, h, e, hg => by
    have e1 := Option.some.inj (show some _ = some (p, c) from e)
    cases h with
    | gone h => cases e1; exact absurd rfl hg
    | @cons p' c' o as _ bs hp hc h =>
      cases e1
      refine ⟨[], o, as, bs, rfl, hp, hc, fun eg f => ⟨fun hq hc' => ?_, fun q => ?_⟩⟩
      · exact .cons hq hc' (h.mono eg f)
      · exact .gone (h.mono eg f)
  | (p0, c0) :: cs, bs, k + 1, p, c, h, e, hg => by
    have e1 : cs[k]? = some (p, c) := e
    cases h with
    | gone h =>
      obtain ⟨l, o, m, r, rfl, hp, hc, f⟩ := CsI.at k h e1 hg
      exact ⟨l, o, m, r, rfl, hp, hc, fun eg g => ⟨fun hq hc' => .gone ((f eg g).1 hq hc'), fun q => .gone ((f eg g).2 q)⟩⟩
    | @cons _ _ o1 as _ bs hp1 hc1 h =>
      obtain ⟨l, o, m, r, rfl, hp, hc, f⟩ := CsI.at k h e1 hg
      refine ⟨p0 :: (as ++ l), o, m, r, ?_, hp, hc, fun {G' H'} eg g => ?_⟩
      · simp only [List.cons_append, List.append_assoc]
      · have g1 : ∀ a ∈ p0 :: as, H' a = H a := fun a ha => g a (by
          rcases List.mem_cons.mp ha with rfl | ha
          · exact List.mem_append_left _ List.mem_cons_self
          · exact List.mem_append_left _ (List.mem_cons_of_mem _ (List.mem_append_left _ ha)))
        have g2 : ∀ a ∈ l ++ r, H' a = H a := fun a ha => g a (by
          rcases List.mem_append.mp ha with ha | ha
          · exact List.mem_append_left _ (List.mem_cons_of_mem _ (List.mem_append_right _ ha))
          · exact List.mem_append_right _ ha)
        have k1 : H' p0 = some o1 := (g1 p0 List.mem_cons_self).trans hp1
        have k2 := hc1.mono eg fun a ha => g1 a (List.mem_cons_of_mem _ ha)
        refine ⟨fun {q c' o' m'} hq hc' => ?_, fun q => ?_⟩
        · have := CsI.cons k1 k2 ((f eg g2).1 hq hc')
          simpa only [List.cons_append, List.append_assoc, List.set_cons_succ] using this
        · have := CsI.cons k1 k2 ((f eg g2).2 q)
          simpa only [List.cons_append, List.append_assoc, List.set_cons_succ] using this
def SlOk (G : Hp) : Slot → Option V → Prop
  | .any, _ => True
  | .v x, o => o = some x
  | @Slot.val _ _ _ x, o => ∃ u, o = some u ∧ Dq G u (Datum.toD x)
  | .own _, _ => False
  | .ownA _ _, _ => False
  | .otup _, _ => False
  | .say φ, o => ∃ u, o = some u ∧ Mono φ ∧ φ G u
theorem SlOk.mono {s : Slot} {o : Option V} (h : SlOk G s o) (e : Ex G G') : SlOk G' s o := by
  cases s with
  | any => trivial
  | v x => exact h
  | val x => obtain ⟨u, h1, h2⟩ := h; exact ⟨u, h1, dq_mono e h2⟩
  | own c => exact h
  | ownA _ c => exact h
  | otup _ => exact h
  | say φ => obtain ⟨u, h1, m, h2⟩ := h; exact ⟨u, h1, m, m _ _ _ e h2⟩
def SgI (G : Hp) (sl : List Slot) (σ : St) : Prop := sl.length = σ.length ∧ ∀ (i : Nat) s, sl[i]? = some s → ∃ o, σ[i]? = some o ∧ SlOk G s o
theorem SgI.mono {sl : List Slot} {σ : St} (h : SgI G sl σ) (e : Ex G G') : SgI G' sl σ := ⟨h.1, fun i s hs => let ⟨o, h1, h2⟩ := h.2 i s hs; ⟨o, h1, h2.mono e⟩⟩
theorem SgI.set {sl : List Slot} {σ : St} (h : SgI G sl σ) (i : Nat) {s : Slot} {u : V} (hs : SlOk G s (some u)) : SgI G (sl.set i s) (σ.set i (some u)) := by
  refine ⟨by rw [List.length_set, List.length_set, h.1], fun j s' hj => ?_⟩
  by_cases e : i = j
  · subst e
    have hl : i < sl.length := by
      have := (List.getElem?_eq_some_iff.mp hj).1
      rwa [List.length_set] at this
    rw [List.getElem?_set_self hl] at hj
    cases hj
    exact ⟨some u, by rw [List.getElem?_set_self (h.1 ▸ hl)], hs⟩
  · rw [List.getElem?_set_ne e] at hj
    obtain ⟨o, h1, h2⟩ := h.2 j s' hj
    exact ⟨o, by rw [List.getElem?_set_ne e]; exact h1, h2⟩
end
/-- what holds ahead of a def: G what is said for good, F what is to stay -/
structure Base where
  G : Hp
  F : Hp
structure Stt : Type 1 where
  sl : List Slot
  cs : List (Addr × Cel)
structure St0 (B : Base) (S : Stt) (T : List Slot) (σ : St) (tv : List V) (H G : Hp) (as bs : List Addr) : Prop where
  tmp : SsI G H T tv as
  cel : CsI G H S.cs bs
  slo : SgI G S.sl σ
  nod : (as ++ bs).Nodup
  fre : ∀ a ∈ as ++ bs, G a = none ∧ B.F a = none
  gro : Ex B.G G
  new : ∀ a o, G a = some o → B.G a = some o ∨ B.F a = none ∨ ∃ xs, o = .tup xs
  sub : Ex G H
  frm : Ex B.F H
def Sta (B : Base) (S : Stt) (T : List Slot) (σ : St) (tv : List V) (H : Hp) : Prop := ∃ G as bs, St0 B S T σ tv H G as bs
def Slot.plain : Slot → Bool
  | .own _ => false
  | .ownA _ _ => false
  | .otup _ => false
  | _ => true
/-- something is known, and nothing is owned -/
def Slot.there : Slot → Bool
  | .own _ => false
  | .ownA _ _ => false
  | .otup _ => false
  | .any => false
  | _ => true
section
variable {B : Base} {S : Stt} {T : List Slot} {σ : St} {tv : List V} {H G : Hp} {x y : Slot} {v u : V}
theorem SlI.ok {as : List Addr} (h : SlI G H x v as) (hp : x.plain = true) : SlOk G x (some v) := by
  cases h with
  | any => trivial
  | v => rfl
  | val h => exact ⟨_, rfl, h⟩
  | own _ _ => cases hp
  | ownA _ _ => cases hp
  | otup _ _ => cases hp
  | say m h => exact ⟨_, rfl, m, h⟩
theorem SlI.nil {as : List Addr} (h : SlI G H x v as) (hp : x.plain = true) : as = [] := by
  cases h with
  | any => rfl
  | v => rfl
  | val h => rfl
  | own _ _ => cases hp
  | ownA _ _ => cases hp
  | otup _ _ => cases hp
  | say m h => rfl
theorem SlOk.sl (h : SlOk G x (some v)) : SlI G H x v [] := by
  cases x with
  | any => exact .any
  | v w => cases h; exact .v
  | val z => obtain ⟨_, e, h⟩ := h; cases e; exact .val h
  | own c => cases h
  | ownA _ c => cases h
  | otup _ => cases h
  | say φ => obtain ⟨_, e, m, h⟩ := h; cases e; exact .say m h
theorem Sta.top (h : Sta B S (x :: T) σ (v :: tv) H) : ∃ G as, SlI G H x v as ∧ Ex G H := by
  obtain ⟨G, as, bs, z⟩ := h
  cases z.tmp with
  | cons h1 h2 => exact ⟨G, _, h1, z.sub⟩
theorem Sta.drop (h : Sta B S (x :: T) σ (v :: tv) H) : Sta B S T σ tv H := by
  obtain ⟨G, as, bs, z⟩ := h
  obtain ⟨z1, z2, z3, z4, z5, z6, z7, z8, z9⟩ := z
  cases z1 with
  | @cons _ _ a1 _ _ a2 h1 h2 =>
    refine ⟨G, a2, bs, h2, z2, z3, ?_, fun a ha => z5 a ?_, z6, z7, z8, z9⟩
    · rw [List.append_assoc] at z4
      exact (List.nodup_append.mp z4).2.1
    · rw [List.append_assoc]
      exact List.mem_append_right _ ha
/-- a value that owns nothing is laid on top -/
theorem Sta.push (h : Sta B S T σ tv H) (hz : ∀ G, Ex G H → SlI G H x v []) : Sta B S (x :: T) σ (v :: tv) H := by
  obtain ⟨G, as, bs, z⟩ := h
  exact ⟨G, [] ++ as, bs, .cons (hz G z.sub) z.tmp, z.cel, z.slo, z.nod, z.fre, z.gro, z.new, z.sub, z.frm⟩
theorem Sta.get {i : Nat} {s : Slot} (h : Sta B S T σ tv H) (hs : S.sl[i]? = some s) (hn : s.there = true) : ∃ v, σ[i]? = some (some v) ∧ Sta B S (s :: T) σ (v :: tv) H := by
  obtain ⟨G, as, bs, z⟩ := h
  obtain ⟨o, h1, h2⟩ := z.slo.2 i s hs
  have : ∃ v, o = some v := by
    cases s with
    | any => cases hn
    | v w => exact ⟨w, h2⟩
    | val z => obtain ⟨u, e, _⟩ := h2; exact ⟨u, e⟩
    | own c => cases hn
    | ownA _ c => cases hn
    | otup _ => cases hn
    | say φ => obtain ⟨u, e, _⟩ := h2; exact ⟨u, e⟩
  obtain ⟨v, rfl⟩ := this
  exact ⟨v, h1, G, [] ++ as, bs, .cons h2.sl z.tmp, z.cel, z.slo, z.nod, z.fre, z.gro, z.new, z.sub, z.frm⟩
theorem Sta.set (h : Sta B S (x :: T) σ (v :: tv) H) (hp : x.plain = true) (i : Nat) : Sta B ⟨S.sl.set i x, S.cs⟩ T (σ.set i (some v)) tv H := by
  obtain ⟨G, as, bs, z⟩ := h
  obtain ⟨z1, z2, z3, z4, z5, z6, z7, z8, z9⟩ := z
  cases z1 with
  | @cons _ _ a1 _ _ a2 h1 h2 =>
    have e := h1.nil hp
    subst e
    exact ⟨G, a2, bs, h2, z2, z3.set i (h1.ok hp), z4, z5, z6, z7, z8, z9⟩
/-- an owned thing gets a name -/
theorem Sta.name {c : Cel} (h : Sta B S (.own c :: T) σ (v :: tv) H) : ∃ p, v = .ref p ∧ Sta B ⟨S.sl, S.cs ++ [(p, c)]⟩ (.v (.ref p) :: T) σ (.ref p :: tv) H := by
  obtain ⟨G, as, bs, z⟩ := h
  obtain ⟨z1, z2, z3, z4, z5, z6, z7, z8, z9⟩ := z
  cases z1 with
  | @cons _ _ a1 _ _ a2 h1 h2 =>
    cases h1 with
    | @own _ p o m hp hc =>
      have pm : (([] ++ a2) ++ (bs ++ (p :: (m ++ [])))).Perm ((p :: m) ++ a2 ++ bs) := by
        simp only [List.nil_append, List.append_nil]
        have e1 : (a2 ++ (bs ++ (p :: m))).Perm ((a2 ++ bs) ++ (p :: m)) := by rw [List.append_assoc]
        have e2 : ((a2 ++ bs) ++ (p :: m)).Perm ((p :: m) ++ (a2 ++ bs)) := List.perm_append_comm
        have e3 : ((p :: m) ++ (a2 ++ bs)).Perm ((p :: m) ++ a2 ++ bs) := by rw [List.append_assoc]
        exact e1.trans (e2.trans e3)
      exact ⟨p, rfl, G, [] ++ a2, bs ++ (p :: (m ++ [])), .cons .v h2, z2.app (.cons hp hc .nil), z3, pm.nodup_iff.mpr z4, fun a ha => z5 a (pm.mem_iff.mp ha), z6, z7, z8, z9⟩
end
/-! the weakest readings -/
section
variable (X : Cx)
structure teOf (e : Expr) (σ : St) (H : Hp) (Q : VK) : Prop where
  run : ∀ pins s, Inv X pins σ H s → wpAny (model X.prog X.w) X.A (eval e X.env) (EP X pins σ Q) X.xe s
structure ttOf (e : Expr) (σ : St) (H : Hp) (Q : Bool → Hp → Prop) : Prop where
  run : ∀ pins s, Inv X pins σ H s → wpAny (model X.prog X.w) X.A (isTrue e X.env (eval e X.env)) (TP X pins σ Q) X.xe s
structure twOf (e : Expr) (σ : St) (H : Hp) (Q : Bool → Hp → Prop) : Prop where
  run : ∀ whole pins s, Inv X pins σ H s → wpAny (model X.prog X.w) X.A (isTrue e X.env whole) (TP X pins σ Q) X.xe s
structure taOf (es : List Expr) (σ : St) (H : Hp) (Q : List V → Hp → Prop) : Prop where
  run : ∀ pos pins s, Inv X pins σ H s → wpAny (model X.prog X.w) X.A (spliced (backTo pos (starEach es X.env))) (AP X pins σ Q) X.xe s
structure tbOf (st : List Stmt) (D : Ends) (σ : St) (H : Hp) : Prop where
  run : ∀ pins s, Inv X pins σ H s → wpAny (model X.prog X.w) X.A (execs st X.env) (SP X pins D) X.xe s
end
section
variable {X : Cx}
theorem pe0 {e : Expr} : PE X e (teOf X e) := ⟨fun pins s _ _ _ I h => h.run pins s I⟩
theorem pt0 {e : Expr} : PT X e (ttOf X e) := ⟨fun pins s _ _ _ I h => h.run pins s I⟩
theorem pw0 {e : Expr} : PW X e (twOf X e) := ⟨fun wh pins s _ _ _ I h => h.run wh pins s I⟩
theorem pa0 {es : List Expr} : PA X es (taOf X es) := ⟨fun pos pins s _ _ _ I h => h.run pos pins s I⟩
theorem pb0 {st : List Stmt} : PSs X st (tbOf X st) := ⟨fun pins s _ _ _ I h => h.run pins s I⟩
theorem pe1 {e : Expr} {t : TE} (h : PE X e t) {σ : St} {H : Hp} {Q : VK} (q : t σ H Q) : teOf X e σ H Q := ⟨fun pins s I => h.run pins s σ H Q I q⟩
theorem pt1 {e : Expr} {t : TT} (h : PT X e t) {σ : St} {H : Hp} {Q : Bool → Hp → Prop} (q : t σ H Q) : ttOf X e σ H Q := ⟨fun pins s I => h.run pins s σ H Q I q⟩
theorem pw1 {e : Expr} {t : TT} (h : PW X e t) {σ : St} {H : Hp} {Q : Bool → Hp → Prop} (q : t σ H Q) : twOf X e σ H Q := ⟨fun wh pins s I => h.run wh pins s σ H Q I q⟩
theorem pa1 {es : List Expr} {t : TA} (h : PA X es t) {σ : St} {H : Hp} {Q : List V → Hp → Prop} (q : t σ H Q) : taOf X es σ H Q := ⟨fun pos pins s I => h.run pos pins s σ H Q I q⟩
theorem pb1 {st : List Stmt} {t : TS} (h : PSs X st t) {σ : St} {H : Hp} {D : Ends} (q : t D σ H) : tbOf X st D σ H := ⟨fun pins s I => h.run pins s σ H D I q⟩
end
/-! the judgements -/
abbrev FK := List Slot → List V → St → Hp → Prop
structure FE : Type 1 where
  nx : FK
  rt : V → Hp → Prop
  bk : FK := fun _ _ _ _ => False
  ct : FK := fun _ _ _ _ => False
abbrev FE.at (D : FE) (T : List Slot) (tv : List V) : Ends := ⟨D.nx T tv, D.rt, D.bk T tv, D.ct T tv⟩
section
variable (X : Cx) (B : Base)
def JE (S : Stt) (e : Expr) (S' : Stt) (x : Slot) : Prop := ∀ T tv σ H Q, Sta B S T σ tv H → (∀ v H', Sta B S' (x :: T) σ (v :: tv) H' → Q v H') → teOf X e σ H Q
def JT (S : Stt) (e : Expr) (S' : Stt) (b : Bool) : Prop := ∀ T tv σ H Q, Sta B S T σ tv H → (∀ H', Sta B S' T σ tv H' → Q b H') → ttOf X e σ H Q
def JW (S : Stt) (e : Expr) (S' : Stt) (b : Bool) : Prop := ∀ T tv σ H Q, Sta B S T σ tv H → (∀ H', Sta B S' T σ tv H' → Q b H') → twOf X e σ H Q
/-- arguments: from the left; they lie in their order -/
def JA (S : Stt) (es : List Expr) (S' : Stt) (xs : List Slot) : Prop := ∀ T tv σ H Q, Sta B S T σ tv H → (∀ vs H', vs.length = xs.length → Sta B S' (xs ++ T) σ (vs ++ tv) H' → Q vs H') → taOf X es σ H Q
def JS (S : Stt) (st : List Stmt) (D : FE) : Prop := ∀ T tv σ H, Sta B S T σ tv H → tbOf X st (D.at T tv) σ H
def FE.seq (D : FE) (rest : List Stmt) : FE := { D with nx := fun T tv σ H => tbOf X rest (D.at T tv) σ H }
end
end J
namespace J
open PySem L2
open PySem.W (Datum)
section
variable {X : Cx} {B : Base} {S S1 S2 S3 : Stt} {x y z : Slot} {a b e : Expr} {es : List Expr} {pos : Pos}
/-! names and constants -/
theorem je_var (i : Nat) {n : Str} {s : Slot} (hs : S.sl[i]? = some s) (hn : s.there = true := by rfl) (hN : X.N[i]? = some n := by rfl)
    (hv : Vis X.env.scope n := by first | exact Or.inl rfl | exact Or.inr (Or.inl rfl) | exact Or.inr (Or.inr rfl)) (hd : (n == ("__debug__" : Str)) = false := by decide) (hcd : (n == ("__classdict__" : Str)) = false := by decide) : JE X B S (.Name n pos) S s := by
  intro T tv σ H Q h q
  obtain ⟨v, h1, h2⟩ := h.get hs hn
  exact pe1 (pe_var hN hv hd hcd) ⟨v, h1, q v H h2⟩
theorem je_int {i : Int} {j : Nat} : JE X B S (.Constant (.int i) j pos) S (.val i) := fun T tv σ H Q h q => pe1 pe_int (q _ _ (h.push fun _ _ => .val (.int i)))
theorem je_bl {k : Bool} {j : Nat} : JE X B S (.Constant (.bool k) j pos) S (.val k) := fun T tv σ H Q h q => pe1 pe_bl (q _ _ (h.push fun _ _ => .val (.bl k)))
theorem je_str {k : Str} {j : Nat} : JE X B S (.Constant (.str k) j pos) S (.val k) := fun T tv σ H Q h q => pe1 pe_str (q _ _ (h.push fun _ _ => .val (.str k)))
theorem je_non {j : Nat} : JE X B S (.Constant .none j pos) S (.v .non) := fun T tv σ H Q h q => pe1 pe_non (q _ _ (h.push fun _ _ => .v))
/-- the same value, said otherwise -/
theorem je_as (h : JE X B S e S1 x) (k : ∀ {G H u as}, SlI G H x u as → SlI G H y u as) : JE X B S e S1 y := by
  intro T tv σ H Q hs q
  refine h T tv σ H Q hs fun v H' g => q v H' ?_
  obtain ⟨G, as, bs, z1, z2, z3, z4, z5, z6, z7, z8, z9⟩ := g
  cases z1 with
  | cons h1 h2 => exact ⟨G, _, bs, .cons (k h1) h2, z2, z3, z4, z5, z6, z7, z8, z9⟩
theorem jt_eq {p q : Bool} (h : JT X B S e S1 p) (k : p = q) : JT X B S e S1 q := k ▸ h
/-! two values, one answer -/
def O2 (X : Cx) (B : Base) (r : R2) (S : Stt) (x y : Slot) (S' : Stt) (z : Slot) : Prop := ∀ T tv σ v u H Q, Sta B S (y :: x :: T) σ (u :: v :: tv) H → (∀ w H', Sta B S' (z :: T) σ (w :: tv) H' → Q w H') → r v u H Q
theorem je_op {op : Operator} {r : R2} (ho : OpR X (binaryOp op) r) (ha : JE X B S a S1 x) (hb : JE X B S1 b S2 y) (hr : O2 X B r S2 x y S3 z) : JE X B S (.BinOp a op b pos) S3 z := by
  intro T tv σ H Q h q
  refine pe1 (pe_op ho pe0 pe0) (ha _ _ _ _ _ h fun v H1 h1 => hb _ _ _ _ _ h1 fun u H2 h2 => hr _ _ _ _ _ _ _ h2 q)
theorem je_cmp {op : CmpOp} {r : R2} (ho : OpR X (compareOp op) r) (ha : JE X B S a S1 x) (hb : JE X B S1 b S2 y) (hr : O2 X B r S2 x y S3 z) (hm : behindInMarks op b = false) : JE X B S (.Compare a [op] [b] pos) S3 z := by
  intro T tv σ H Q h q
  refine pe1 (pe_cmpR ho pe0 pe0 hm) (ha _ _ _ _ _ h fun v H1 h1 => hb _ _ _ _ _ h1 fun u H2 h2 => hr _ _ _ _ _ _ _ h2 q)
theorem Sta.bool {T : List Slot} {σ : St} {tv : List V} {H : Hp} {v : V} {k : Bool} (h : Sta B S (.val k :: T) σ (v :: tv) H) : v = .bl k := by
  obtain ⟨G, as, h1, _⟩ := h.top
  cases h1 with
  | val h => cases (show Dq G v (.bool k) from h); rfl
theorem Sta.int {T : List Slot} {σ : St} {tv : List V} {H : Hp} {v : V} {k : Int} (h : Sta B S (.val k :: T) σ (v :: tv) H) : v = .int k := by
  obtain ⟨G, as, h1, _⟩ := h.top
  cases h1 with
  | val h => cases (show Dq G v (.int k) from h); rfl
theorem Sta.str {T : List Slot} {σ : St} {tv : List V} {H : Hp} {v : V} {k : Str} (h : Sta B S (.val k :: T) σ (v :: tv) H) : v = .str k := by
  obtain ⟨G, as, h1, _⟩ := h.top
  cases h1 with
  | val h => cases (show Dq G v (.str k) from h); rfl
theorem Sta.exact {T : List Slot} {σ : St} {tv : List V} {H : Hp} {v w : V} (h : Sta B S (.v w :: T) σ (v :: tv) H) : v = w := by
  obtain ⟨G, as, h1, _⟩ := h.top
  cases h1 with
  | v => rfl
theorem jt_cmp {op : CmpOp} {r : R2} {k : Bool} (ho : OpR X (compareOp op) r) (ha : JE X B S a S1 x) (hb : JE X B S1 b S2 y) (hr : O2 X B r S2 x y S3 (.val k)) (hm : behindInMarks op b = false) : JT X B S (.Compare a [op] [b] pos) S3 k := by
  intro T tv σ H Q h q
  refine pt1 (pt_cmpR ho pe0 pe0 hm) (ha _ _ _ _ _ h fun v H1 h1 => hb _ _ _ _ _ h1 fun u H2 h2 => hr _ _ _ _ _ _ _ h2 fun w H3 h3 => ?_)
  have e := h3.bool
  subst e
  exact ⟨k, rfl, q _ h3.drop⟩
/-! whole numbers -/
theorem o2_i0 {g : Int → Int → V} {i j : Int} {z : Slot} (hz : ∀ G H, SlI G H z (g i j) []) : O2 X B (rI0 g) S (.val i) (.val j) S z := by
  intro T tv σ v u H Q h q
  have e1 := h.int
  have e2 := h.drop.int
  subst e1 e2
  exact ⟨i, j, rfl, rfl, q _ _ (h.drop.drop.push fun G _ => hz G H)⟩
theorem o2_i {C : Int → Int → Prop} {g : Int → Int → V} {i j : Int} {z : Slot} (hc : C i j) (hz : ∀ G H, SlI G H z (g i j) []) : O2 X B (rI C g) S (.val i) (.val j) S z := by
  intro T tv σ v u H Q h q
  have e1 := h.int
  have e2 := h.drop.int
  subst e1 e2
  exact ⟨i, j, rfl, rfl, hc, q _ _ (h.drop.drop.push fun G _ => hz G H)⟩
theorem sl_int {G H : Hp} (i : Int) : SlI G H (.val i) (.int i) [] := .val (.int i)
theorem sl_bl {G H : Hp} (k : Bool) : SlI G H (.val k) (.bl k) [] := .val (.bl k)
variable {i j : Int}
theorem je_add (ha : JE X B S a S1 (.val i)) (hb : JE X B S1 b S2 (.val j)) : JE X B S (.BinOp a .Add b pos) S2 (.val (i + j)) := je_op op_add ha hb (o2_i0 fun _ _ => sl_int _)
theorem je_sub (ha : JE X B S a S1 (.val i)) (hb : JE X B S1 b S2 (.val j)) : JE X B S (.BinOp a .Sub b pos) S2 (.val (i - j)) := je_op op_sub ha hb (o2_i0 fun _ _ => sl_int _)
theorem je_mul (ha : JE X B S a S1 (.val i)) (hb : JE X B S1 b S2 (.val j)) (hc : CMul i j) : JE X B S (.BinOp a .Mult b pos) S2 (.val (i * j)) := je_op op_mul ha hb (o2_i hc fun _ _ => sl_int _)
theorem je_div (ha : JE X B S a S1 (.val i)) (hb : JE X B S1 b S2 (.val j)) (hc : 0 < j ∧ j < 18446744073709551616) : JE X B S (.BinOp a .FloorDiv b pos) S2 (.val (i / j)) :=
  je_op op_fdivW ha hb (o2_i (wide_div (b := 64) hc.1 (by have := hc.1; have := hc.2; omega) (by decide) (by decide)) fun _ _ => sl_int _)
theorem je_mod (ha : JE X B S a S1 (.val i)) (hb : JE X B S1 b S2 (.val j)) (hc : 0 < j) : JE X B S (.BinOp a .Mod b pos) S2 (.val (i % j)) := je_op op_mod ha hb (o2_i hc fun _ _ => sl_int _)
theorem je_pow {n : Nat} (ha : JE X B S a S1 (.val i)) (hb : JE X B S1 b S2 (.val (n : Int))) (hn : n ≤ 1000000) (hc : i.natAbs < 18446744073709551616) : JE X B S (.BinOp a .Pow b pos) S2 (.val (i ^ n)) :=
  je_op op_pow ha hb (o2_i ⟨Int.natCast_nonneg _, by omega, hc⟩ fun _ _ => sl_int _)
/-! comparisons of whole numbers: as tests, as values -/
section
variable {op : CmpOp}
theorem jt_lt (ha : JE X B S a S1 (.val i)) (hb : JE X B S1 b S2 (.val j)) : JT X B S (.Compare a [.Lt] [b] pos) S2 (decide (i < j)) := jt_cmp op_lt ha hb (o2_i0 fun _ _ => sl_bl _) (nomark _)
theorem jt_ge (ha : JE X B S a S1 (.val i)) (hb : JE X B S1 b S2 (.val j)) : JT X B S (.Compare a [.GtE] [b] pos) S2 (decide (j ≤ i)) := jt_cmp op_ge ha hb (o2_i0 fun _ _ => sl_bl _) (nomark _)
end
/-! and, or, not; tests of values that are truths -/
section
variable {p q : Bool} {rest : List Expr}
theorem jt_bl (h : JE X B S e S1 (.val p)) (he : ∀ whole, isTrue e X.env whole = (do let v ← whole; standAt e.pos; holding [v] (truthy v)) := by intro _; rfl) : JT X B S e S1 p := by
  intro T tv σ H Q hs k
  refine pt1 (pt_val pe0 he) (h _ _ _ _ _ hs fun v H1 h1 => ?_)
  have e := h1.bool
  subst e
  exact ⟨p, rfl, k _ h1.drop⟩
theorem jt_not (h : JT X B S a S1 p) : JT X B S (.UnaryOp .Not a pos) S1 (!p) := fun T tv σ H Q hs k => pt1 (pt_not pt0) (h _ _ _ _ _ hs fun H1 h1 => k _ h1)
theorem jw_and1 (h : JT X B S a S1 p) : JW X B S (.BoolOp .And [a] pos) S1 p := fun T tv σ H Q hs k => pw1 (pw_and1 pt0) (h _ _ _ _ _ hs k)
theorem jw_or1 (h : JT X B S a S1 p) : JW X B S (.BoolOp .Or [a] pos) S1 p := fun T tv σ H Q hs k => pw1 (pw_or1 pt0) (h _ _ _ _ _ hs k)
/-- the second one is asked where the first one is true; it leaves the state (pure), or the state is one for both -/
theorem jw_and (h : JT X B S a S1 p) (h2 : p = true → JW X B S1 (.BoolOp .And (b :: rest) pos) S1 q) : JW X B S (.BoolOp .And (a :: b :: rest) pos) S1 (p && q) := by
  intro T tv σ H Q hs k
  refine pw1 (pw_and pt0 pw0) (h _ _ _ _ _ hs fun H1 h1 => ?_)
  cases p with
  | true => exact iteT (h2 rfl _ _ _ _ _ h1 fun H2 g2 => k _ g2)
  | false => exact iteF (k _ h1)
theorem jw_or (h : JT X B S a S1 p) (h2 : p = false → JW X B S1 (.BoolOp .Or (b :: rest) pos) S1 q) : JW X B S (.BoolOp .Or (a :: b :: rest) pos) S1 (p || q) := by
  intro T tv σ H Q hs k
  refine pw1 (pw_or pt0 pw0) (h _ _ _ _ _ hs fun H1 h1 => ?_)
  cases p with
  | true => exact iteT (k _ h1)
  | false => exact iteF (h2 rfl _ _ _ _ _ h1 fun H2 g2 => k _ g2)
theorem JW.t (h : JW X B S e S1 p) : JT X B S e S1 p := fun T tv σ H Q hs k => pt1 pw0.pt (h _ _ _ _ _ hs k)
theorem je_if {c : Expr} (h : JT X B S c S1 p) (h1 : p = true → JE X B S1 a S2 z) (h2 : p = false → JE X B S1 b S2 z) : JE X B S (.IfExp c a b pos) S2 z := by
  intro T tv σ H Q hs k
  refine pe1 (pe_ifExp pt0 pe0 pe0) (h _ _ _ _ _ hs fun H1 g => ?_)
  cases p with
  | true => exact iteT (h1 rfl _ _ _ _ _ g k)
  | false => exact iteF (h2 rfl _ _ _ _ _ g k)
end
/-! arguments -/
theorem SsI.rot {G H : Hp} {xs T : List Slot} {vs tv : List V} {s : Slot} {u : V} {as : List Addr} (hl : xs.length = vs.length) (h : SsI G H (xs ++ s :: T) (vs ++ u :: tv) as) : ∃ bs, SsI G H (s :: (xs ++ T)) (u :: (vs ++ tv)) bs ∧ bs.Perm as := by
  obtain ⟨a1, a2, rfl, h1, h2⟩ := SsI.split hl h
  cases h2 with
  | @cons _ _ b1 _ _ b2 h3 h4 =>
    refine ⟨_, .cons h3 (h1.app h4), ?_⟩
    have e1 : (b1 ++ (a1 ++ b2)).Perm ((a1 ++ b2) ++ b1) := List.perm_append_comm
    have e2 : ((a1 ++ b2) ++ b1).Perm (a1 ++ (b2 ++ b1)) := by rw [List.append_assoc]
    exact e1.trans (e2.trans (List.Perm.append_left _ List.perm_append_comm))
theorem Sta.rot {xs T : List Slot} {σ : St} {vs tv : List V} {H : Hp} {s : Slot} {u : V} (hl : xs.length = vs.length) (h : Sta B S (xs ++ s :: T) σ (vs ++ u :: tv) H) : Sta B S (s :: (xs ++ T)) σ (u :: (vs ++ tv)) H := by
  obtain ⟨G, as, bs, z1, z2, z3, z4, z5, z6, z7, z8, z9⟩ := h
  obtain ⟨cs, h1, hp⟩ := z1.rot hl
  have hp2 : (cs ++ bs).Perm (as ++ bs) := List.Perm.append_right _ hp
  exact ⟨G, cs, bs, h1, z2, z3, hp2.nodup_iff.mpr z4, fun a ha => z5 a (hp2.mem_iff.mp ha), z6, z7, z8, z9⟩
theorem ja_nil : JA X B S [] S [] := fun T tv σ H Q h q => pa1 pa_nil (q [] H rfl h)
theorem ja_cons {xs : List Slot} (h1 : JE X B S e S1 x) (h2 : JA X B S1 es S2 xs) (hs : starEach (e :: es) X.env = (false, eval e X.env) :: starEach es X.env := by rfl) : JA X B S (e :: es) S2 (x :: xs) := by
  intro T tv σ H Q h q
  exact pa1 (pa_cons pe0 pa0 hs) (h1 _ _ _ _ _ h fun v H1 g1 => h2 _ _ _ _ _ g1 fun vs H2 hl g2 => q (v :: vs) H2 (congrArg Nat.succ hl) (Sta.rot hl.symm g2))
end
end J
namespace J
open PySem L2
open PySem.W (Datum)
/-! ### the mirror's loops -/
def forM {ι α : Type} (f : ι → α → Option ι) : List α → ι → Option ι
  | [], s => some s
  | x :: xs, s => (f s x).bind (forM f xs)
/-- a turn: on, out of the loop, out of the def -/
inductive Lp (ι ρ : Type) where
  | nx (s : ι)
  | bk (s : ι)
  | rt (r : ρ)
/-- .. the loop: ended (or left by break), or the def is left -/
def forL {ι α ρ : Type} (f : ι → α → Option (Lp ι ρ)) : List α → ι → Option (Sum ι ρ)
  | [], s => some (.inl s)
  | x :: xs, s => (f s x).bind fun
    | .nx s' => forL f xs s'
    | .bk s' => some (.inl s')
    | .rt r => some (.inr r)
def whileM {ι : Type} (c : ι → Option Bool) (f : ι → Option ι) : Nat → ι → Option ι
  | 0, _ => none
  | n + 1, s => (c s).bind fun b => if b = true then (f s).bind (whileM c f n) else some s
theorem bnd {α β : Type} {m : Option α} {f : α → Option β} {r : β} {C : Prop} (h : m.bind f = some r) (k : ∀ x, m = some x → f x = some r → C) : C := by
  cases m with
  | none => cases h
  | some x => exact k x rfl h
/-! ### statements -/
section
variable {X : Cx} {B : Base} {S S1 S2 S3 : Stt} {x y z : Slot} {a b e : Expr} {es : List Expr} {pos : Pos} {D : FE} {rest : List Stmt}
theorem js_step {st : Stmt} {t : TS} (hp : PS X st t) (h : ∀ T tv σ H, Sta B S T σ tv H → t ((D.seq X rest).at T tv) σ H) : JS X B S (st :: rest) D :=
  fun T tv σ H hs => pb1 (pss_cons hp pb0) (h T tv σ H hs)
theorem js_nil (h : ∀ T tv σ H, Sta B S T σ tv H → D.nx T tv σ H) : JS X B S [] D := fun T tv σ H hs => pb1 pss_nil (h T tv σ H hs)
theorem js_end (h : JS X B S rest D) : JS X B S [] (D.seq X rest) := js_nil h
theorem js_set (i : Nat) {n : Str} {pos' : Pos} (he : JE X B S e S1 x) (k : JS X B ⟨S1.sl.set i x, S1.cs⟩ rest D) (hp : x.plain = true := by rfl) (hN : X.N.Nodup := by assumption) (hi : X.N[i]? = some n := by rfl)
    (hx : Loc X.env.scope n := by first | exact .inl rfl | exact .inr rfl) (hs : swapsWith e (some (.Name n pos')) pos.line X.env = pure false := by rfl) (hf : X.fn n = true ∨ X.env.scope.names.lookup n = some .local := by first | exact .inl rfl | exact .inr rfl) :
    JS X B S (.Assign [.Name n pos'] e pos :: rest) D :=
  js_step (ps_set hN hi hx pe0 hs hf) fun T tv σ H h => he _ _ _ _ _ h fun v H1 h1 => k _ _ _ _ (h1.set hp i)
/-- a new thing under a name -/
theorem js_new (i : Nat) {n : Str} {pos' : Pos} {c : Cel} (he : JE X B S e S1 (.own c)) (k : ∀ p, JS X B ⟨S1.sl.set i (.v (.ref p)), S1.cs ++ [(p, c)]⟩ rest D) (hN : X.N.Nodup := by assumption) (hi : X.N[i]? = some n := by rfl)
    (hx : Loc X.env.scope n := by first | exact .inl rfl | exact .inr rfl) (hs : swapsWith e (some (.Name n pos')) pos.line X.env = pure false := by rfl) (hf : X.fn n = true ∨ X.env.scope.names.lookup n = some .local := by first | exact .inl rfl | exact .inr rfl) :
    JS X B S (.Assign [.Name n pos'] e pos :: rest) D :=
  js_step (ps_set hN hi hx pe0 hs hf) fun T tv σ H h => he _ _ _ _ _ h fun v H1 h1 => by
    obtain ⟨p, rfl, h2⟩ := h1.name
    exact k p _ _ _ _ (h2.set rfl i)
theorem js_expr (he : JE X B S e S1 x) (k : JS X B S1 rest D) (hs : swapsWith e none pos.line X.env = pure false := by rfl) : JS X B S (.Expr e pos :: rest) D :=
  js_step (ps_expr pe0 hs) fun T tv σ H h => he _ _ _ _ _ h fun v H1 h1 => k _ _ _ _ h1.drop
/-- what a def hands back, and the cells that it leaves -/
def Out (B : Base) (x : Slot) (cs : List (Addr × Cel)) : V → Hp → Prop := fun v H => Sta B ⟨[], cs⟩ [x] [] [v] H
theorem Sta.only {T : List Slot} {σ : St} {tv : List V} {H : Hp} {v : V} (h : Sta B S (x :: T) σ (v :: tv) H) : Out B x S.cs v H := by
  obtain ⟨G, as, bs, z1, z2, z3, z4, z5, z6, z7, z8, z9⟩ := h
  cases z1 with
  | @cons _ _ a1 _ _ a2 h1 h2 =>
    have hl : (a1 ++ [] ++ bs).Sublist (a1 ++ a2 ++ bs) := ((List.Sublist.refl a1).append (List.nil_sublist a2)).append (List.Sublist.refl bs)
    exact ⟨G, a1 ++ [], bs, .cons h1 .nil, z2, ⟨rfl, fun i s hs => by simp at hs⟩, hl.nodup z4, fun a ha => z5 a (hl.mem ha), z6, z7, z8, z9⟩
theorem js_ret (he : JE X B S e S1 x) (k : ∀ v H', Out B x S1.cs v H' → D.rt v H') : JS X B S (.Return (some e) pos :: rest) D :=
  js_step (ps_ret pe0) fun T tv σ H h => he _ _ _ _ _ h fun v H1 h1 => k v H1 h1.only
/-- both ways go on with what follows -/
theorem js_if {c : Expr} {th el : List Stmt} {p : Bool} (hc : JT X B S c S1 p) (h1 : p = true → JS X B S1 th (D.seq X rest)) (h2 : p = false → JS X B S1 el (D.seq X rest)) : JS X B S (.If c th el pos :: rest) D :=
  js_step (ps_if pt0 pb0 pb0) fun T tv σ H h => hc _ _ _ _ _ h fun H1 g => by
    cases p with
    | true => exact iteT (h1 rfl _ _ _ _ g)
    | false => exact iteF (h2 rfl _ _ _ _ g)
/-- less is known: some slots are forgotten, the last cells dropped -/
inductive Fgt : List Slot → List Slot → Prop where
  | nil : Fgt [] []
  | keep {s : Slot} {l m : List Slot} : Fgt l m → Fgt (s :: l) (s :: m)
  | drop {s : Slot} {l m : List Slot} : Fgt l m → Fgt (s :: l) (.any :: m)
theorem Fgt.len : ∀ {l m : List Slot}, Fgt l m → l.length = m.length
  | _, _, .nil => rfl
  | _, _, .keep h => congrArg Nat.succ h.len
  | _, _, .drop h => congrArg Nat.succ h.len
theorem Fgt.at : ∀ {l m : List Slot}, Fgt l m → ∀ (i : Nat) s, m[i]? = some s → s = .any ∨ l[i]? = some s
  | _, _, .nil, i, s, h => by simp at h
  | _, _, .keep h, 0, s, e => .inr e
  | _, _, .keep h, i + 1, s, e => h.at i s e
  | _, _, .drop h, 0, s, e => .inl (Option.some.inj e).symm
  | _, _, .drop h, i + 1, s, e => h.at i s e
theorem Sta.fgt {T : List Slot} {σ : St} {tv : List V} {H : Hp} {sl : List Slot} (f : Fgt S.sl sl) (h : Sta B S T σ tv H) : Sta B ⟨sl, S.cs⟩ T σ tv H := by
  obtain ⟨G, as, bs, z1, z2, z3, z4, z5, z6, z7, z8, z9⟩ := h
  refine ⟨G, as, bs, z1, z2, ⟨f.len.symm.trans z3.1, fun i s hs => ?_⟩, z4, z5, z6, z7, z8, z9⟩
  rcases f.at i s hs with e | e
  · subst e
    have hi := (List.getElem?_eq_some_iff.mp hs).1
    have hi2 : i < σ.length := z3.1 ▸ f.len ▸ hi
    exact ⟨σ[i], List.getElem?_eq_getElem hi2, trivial⟩
  · exact z3.2 i s e
theorem CsI.take {G H : Hp} : ∀ {cs : List (Addr × Cel)} {bs : List Addr} (n : Nat), CsI G H cs bs → ∃ ds, CsI G H (cs.take n) ds ∧ ds.Sublist bs
  | _, _, 0, _ => ⟨[], .nil, List.nil_sublist _⟩
  | _, _, n + 1, .nil => ⟨[], .nil, List.nil_sublist _⟩
  | _, _, n + 1, .gone h => let ⟨ds, h1, h2⟩ := CsI.take n h; ⟨ds, .gone h1, h2⟩
  | _, _, n + 1, .cons hp hc h => let ⟨ds, h1, h2⟩ := CsI.take n h; ⟨_, .cons hp hc h1, ((List.Sublist.refl _).append h2).cons_cons _⟩
theorem Sta.take {T : List Slot} {σ : St} {tv : List V} {H : Hp} (n : Nat) (h : Sta B S T σ tv H) : Sta B ⟨S.sl, S.cs.take n⟩ T σ tv H := by
  obtain ⟨G, as, bs, z1, z2, z3, z4, z5, z6, z7, z8, z9⟩ := h
  obtain ⟨ds, h1, h2⟩ := z2.take n
  have hl : (as ++ ds).Sublist (as ++ bs) := (List.Sublist.refl as).append h2
  exact ⟨G, as, ds, z1, h1, z3, hl.nodup z4, fun a ha => z5 a (hl.mem ha), z6, z7, z8, z9⟩
theorem Out.take {cs : List (Addr × Cel)} {v : V} {H : Hp} (n : Nat) (h : Out B x cs v H) : Out B x (cs.take n) v H := Sta.take (S := ⟨[], cs⟩) n h
/-! ### while -/
/-! ### for -/
structure tiOf (X : Cx) (tg iter : Expr) (σ : St) (H : Hp) (R : It → Hp → Prop) : Prop where
  run : ∀ pins s, Inv X pins σ H s → wpAny (model X.prog X.w) X.A (eval iter X.env) (fun v s1 => wpAny (model X.prog X.w) X.A (pyIter v) (PIE X pins σ tg R) X.xe s1) X.xe s
theorem pi0 {tg iter : Expr} : PI X tg iter (tiOf X tg iter) := ⟨fun pins s _ _ _ I h => h.run pins s I⟩
theorem pi1 {tg iter : Expr} {t : TI} (h : PI X tg iter t) {σ : St} {H : Hp} {R : It → Hp → Prop} (q : t σ H R) : tiOf X tg iter σ H R := ⟨fun pins s I => h.run pins s σ H R I q⟩
structure tgOf (X : Cx) (tg : Expr) (v : V) (σ : St) (H : Hp) (Q : St → Hp → Prop) : Prop where
  run : ∀ pins s u, Inv X pins σ H s → RelV v u → wpAny (model X.prog X.w) X.A (assign tg X.env u) (fun _ s' => ∃ σ' H', Inv X pins σ' H' s' ∧ Q σ' H') X.xe s
theorem pg0 {tg : Expr} : PG X tg (tgOf X tg) := ⟨fun pins s _ _ _ u _ I r h => h.run pins s u I r⟩
theorem pg1 {tg : Expr} {t : TG} (h : PG X tg t) {v : V} {σ : St} {H : Hp} {Q : St → Hp → Prop} (q : t v σ H Q) : tgOf X tg v σ H Q := ⟨fun pins s u I r => h.run pins s σ H v u Q I r q⟩
theorem wipe_get (σ : St) : ∀ (vs : List Nat) (j : Nat), (wipe σ vs)[j]? = if j ∈ vs then (σ[j]?).map (fun _ => none) else σ[j]?
  | [], j => by rw [if_neg (by simp)]; rfl
  | v :: vs, j => by
    have ih := wipe_get σ vs j
    show ((wipe σ vs).set v none)[j]? = _
    by_cases e : v = j
    · subst e
      rw [if_pos List.mem_cons_self]
      by_cases hl : v < σ.length
      · rw [List.getElem?_set_self (by rw [wipe_length]; exact hl), List.getElem?_eq_getElem hl]; rfl
      · rw [List.getElem?_eq_none (by rw [List.length_set, wipe_length]; omega), List.getElem?_eq_none (by omega)]; rfl
    · rw [List.getElem?_set_ne e, ih]
      by_cases h : j ∈ vs
      · rw [if_pos h, if_pos (List.mem_cons_of_mem _ h)]
      · rw [if_neg h, if_neg (by intro h2; rcases List.mem_cons.mp h2 with h3 | h3; exact e h3.symm; exact h h3)]
theorem wipe_set {σ : St} {vs : List Nat} {i : Nat} {o : Option V} (h : i ∈ vs) : wipe (σ.set i o) vs = wipe σ vs := by
  apply List.ext_getElem?
  intro j
  rw [wipe_get, wipe_get]
  by_cases hj : j ∈ vs
  · rw [if_pos hj, if_pos hj, List.getElem?_set]
    by_cases e : i = j
    · subst e
      rw [if_pos rfl]
      by_cases hl : i < σ.length
      · rw [if_pos hl, List.getElem?_eq_getElem hl]; rfl
      · rw [if_neg hl, List.getElem?_eq_none (by omega)]
    · rw [if_neg e]
  · rw [if_neg hj, if_neg hj, List.getElem?_set_ne (fun e : i = j => hj (e ▸ h))]
theorem wipe_wipe {σ : St} {vs : List Nat} : wipe (wipe σ vs) vs = wipe σ vs := by
  apply List.ext_getElem?
  intro j
  rw [wipe_get, wipe_get]
  by_cases hj : j ∈ vs
  · rw [if_pos hj, if_pos hj]
    cases σ[j]? <;> rfl
  · rw [if_neg hj]
/-- no slots but ws have changed -/
def Chg (ws : List Nat) (σ σ' : St) : Prop := ∀ vs : List Nat, (∀ i ∈ ws, i ∈ vs) → wipe σ' vs = wipe σ vs
theorem Chg.refl (ws : List Nat) (σ : St) : Chg ws σ σ := fun _ _ => rfl
theorem Chg.app {ws ws' : List Nat} {σ σ1 σ2 : St} (a : Chg ws σ σ1) (b : Chg ws' σ1 σ2) : Chg (ws ++ ws') σ σ2 := fun vs h => (b vs fun i hi => h i (List.mem_append_right _ hi)).trans (a vs fun i hi => h i (List.mem_append_left _ hi))
/-- a target takes the topmost value; ws: the slots that it sets -/
def JG (X : Cx) (B : Base) (S : Stt) (tg : Expr) (x : Slot) (S' : Stt) (ws : List Nat) : Prop := ∀ T tv σ v H Q, Sta B S (x :: T) σ (v :: tv) H → (∀ σ' H', Chg ws σ σ' → Sta B S' T σ' tv H' → Q σ' H') → tgOf X tg v σ H Q
theorem jg_name (i : Nat) {n : Str} (hp : x.plain = true := by rfl) (hN : X.N.Nodup := by assumption) (hi : X.N[i]? = some n := by rfl) (hx : Loc X.env.scope n := by first | exact .inl rfl | exact .inr rfl) (hf : X.fn n = true ∨ X.env.scope.names.lookup n = some .local := by first | exact .inl rfl | exact .inr rfl) :
    JG X B S (.Name n pos) x ⟨S.sl.set i x, S.cs⟩ [i] := fun T tv σ v H Q h q => pg1 (pg_name hN hi hx hf) (q _ _ (fun vs hv => wipe_set (hv i List.mem_cons_self)) (h.set hp i))
/-- what a loop walks: n turns, the items; zs are held meanwhile; ok: the states that let it be -/
structure Wk (X : Cx) (B : Base) (zs : List Slot) (zv : List V) (its : List Slot) (ok : Stt → Prop) (J : It) : Prop where
  go : ∀ S T σ tv H (i : Nat) x, ok S → its[i]? = some x → Sta B S (zs ++ T) σ (zv ++ tv) H → J.go i H ∧ ∀ v H', J.yld i H v H' → Sta B S (x :: (zs ++ T)) σ (v :: (zv ++ tv)) H'
  stop : ∀ S T σ tv H, ok S → Sta B S (zs ++ T) σ (zv ++ tv) H → J.stop its.length H
def JI (X : Cx) (B : Base) (S : Stt) (tg iter : Expr) (S' : Stt) (zs its : List Slot) (ok : Stt → Prop) : Prop := ∀ T tv σ H R, Sta B S T σ tv H → (∀ J zv H', zv.length = zs.length → Sta B S' (zs ++ T) σ (zv ++ tv) H' → Wk X B zs zv its ok J → R J H') → tiOf X tg iter σ H R
theorem Sta.drops : ∀ {zs T : List Slot} {σ : St} {zv tv : List V} {H : Hp}, zv.length = zs.length → Sta B S (zs ++ T) σ (zv ++ tv) H → Sta B S T σ tv H
  | [], _, _, [], _, _, _, h => h
  | _ :: zs, _, _, _ :: zv, _, _, e, h => Sta.drops (Nat.succ.inj e) h.drop
  | [], _, _, _ :: _, _, _, e, _ => nomatch e
  | _ :: _, _, _, [], _, _, e, _ => nomatch e
end
end J
namespace J
open PySem L2
open PySem.W (Datum)
/-! ### new things -/
section
variable {G H : Hp}
mutual
theorem SlI.def : ∀ {s : Slot} {u : V} {as : List Addr}, SlI G H s u as → ∀ a ∈ as, ∃ o, H a = some o
  | _, _, _, .any, _, h => nomatch h
  | _, _, _, .v, _, h => nomatch h
  | _, _, _, @SlI.val _ _ _ _ _ _ _ _, _, h => nomatch h
  | _, _, _, .own hp hc, a, h => (List.mem_cons.mp h).elim (fun e => ⟨_, e ▸ hp⟩) fun h => CeI.def hc a h
  | _, _, _, .ownA hp hc, a, h => (List.mem_cons.mp h).elim (fun e => ⟨_, e ▸ hp⟩) fun h => CeI.def hc a h
  | _, _, _, .otup _ hs, a, h => SsI.def hs a h
theorem CeI.def : ∀ {c : Cel} {o : HO} {as : List Addr}, CeI G H c o as → ∀ a ∈ as, ∃ o, H a = some o
  | _, _, _, .lst h, a, ha => SsI.def h a ha
  | _, _, _, .ins _ h, a, ha => SsI.def h a ha
  | _, _, _, .dk _ h, a, ha => SsI.def h a ha
  | _, _, _, .fdk h, a, ha => SsI.def h a ha
theorem SsI.def : ∀ {ss : List Slot} {vs : List V} {as : List Addr}, SsI G H ss vs as → ∀ a ∈ as, ∃ o, H a = some o
  | _, _, _, .nil, _, h => nomatch h
  | _, _, _, .cons h1 h2, a, ha => (List.mem_append.mp ha).elim (fun h => SlI.def h1 a h) fun h => SsI.def h2 a h
end
theorem CsI.def : ∀ {cs : List (Addr × Cel)} {as : List Addr}, CsI G H cs as → ∀ a ∈ as, ∃ o, H a = some o
  | _, _, .nil, _, h => nomatch h
  | _, _, .gone h, a, ha => CsI.def h a ha
  | _, _, .cons hp hc h, a, ha => (List.mem_cons.mp ha).elim (fun e => ⟨_, e ▸ hp⟩) fun ha => (List.mem_append.mp ha).elim (fun h => hc.def a h) fun h' => CsI.def h a h'
theorem CeI.ntO {c : Cel} {o : HO} {as : List Addr} (h : CeI G H c o as) : NT o := by
  cases h with
  | say _ _ n => exact n
  | lst _ => exact fun _ z => nomatch z
  | ins _ _ => exact fun _ z => nomatch z
  | dk _ _ => exact fun _ z => nomatch z
  | fdk _ => exact fun _ z => nomatch z
mutual
theorem SlI.nt : ∀ {s : Slot} {u : V} {as : List Addr}, SlI G H s u as → ∀ a ∈ as, ∃ o, H a = some o ∧ NT o
  | _, _, _, .any, _, h => nomatch h
  | _, _, _, .v, _, h => nomatch h
  | _, _, _, @SlI.val _ _ _ _ _ _ _ _, _, h => nomatch h
  | _, _, _, .own hp hc, a, h => (List.mem_cons.mp h).elim (fun e => ⟨_, e ▸ hp, CeI.ntO hc⟩) fun h => CeI.nt hc a h
  | _, _, _, .ownA hp hc, a, h => (List.mem_cons.mp h).elim (fun e => ⟨_, e ▸ hp, CeI.ntO hc⟩) fun h => CeI.nt hc a h
  | _, _, _, .otup _ hs, a, h => SsI.nt hs a h
theorem CeI.nt : ∀ {c : Cel} {o : HO} {as : List Addr}, CeI G H c o as → ∀ a ∈ as, ∃ o, H a = some o ∧ NT o
  | _, _, _, .lst h, a, ha => SsI.nt h a ha
  | _, _, _, .ins _ h, a, ha => SsI.nt h a ha
  | _, _, _, .dk _ h, a, ha => SsI.nt h a ha
  | _, _, _, .fdk h, a, ha => SsI.nt h a ha
theorem SsI.nt : ∀ {ss : List Slot} {vs : List V} {as : List Addr}, SsI G H ss vs as → ∀ a ∈ as, ∃ o, H a = some o ∧ NT o
  | _, _, _, .nil, _, h => nomatch h
  | _, _, _, .cons h1 h2, a, ha => (List.mem_append.mp ha).elim (fun h => SlI.nt h1 a h) fun h => SsI.nt h2 a h
end
theorem CsI.nt : ∀ {cs : List (Addr × Cel)} {as : List Addr}, CsI G H cs as → ∀ a ∈ as, ∃ o, H a = some o ∧ NT o
  | _, _, .nil, _, h => nomatch h
  | _, _, .gone h, a, ha => CsI.nt h a ha
  | _, _, .cons hp hc h, a, ha => (List.mem_cons.mp ha).elim (fun e => ⟨_, e ▸ hp, hc.ntO⟩) fun ha => (List.mem_append.mp ha).elim (fun h => hc.nt a h) fun h' => CsI.nt h a h'
theorem SsI.one {s : Slot} {u : V} {as : List Addr} (h : SlI G H s u as) : SsI G H [s] [u] as := by
  have := SsI.cons h .nil
  rwa [List.append_nil] at this
theorem SsI.plain : ∀ {ss : List Slot} {vs : List V} {as : List Addr}, SsI G H ss vs as → (∀ s ∈ ss, s.plain = true) → as = []
  | _, _, _, .nil, _ => rfl
  | _, _, _, .cons h1 h2, h => by rw [h1.nil (h _ List.mem_cons_self), SsI.plain h2 fun s hs => h s (List.mem_cons_of_mem _ hs)]; rfl
theorem SsI.cons_inv {s : Slot} {u : V} {ss : List Slot} {vs : List V} {as : List Addr} (h : SsI G H (s :: ss) (u :: vs) as) : ∃ a1 a2, as = a1 ++ a2 ∧ SlI G H s u a1 ∧ SsI G H ss vs a2 := by
  cases h with
  | @cons _ _ a1 _ _ a2 h1 h2 => exact ⟨a1, a2, rfl, h1, h2⟩
theorem SsI.cons_nil {s : Slot} {u : V} {ss : List Slot} {vs : List V} (h : SsI G H (s :: ss) (u :: vs) []) : SlI G H s u [] ∧ SsI G H ss vs [] := by
  obtain ⟨a1, a2, e, h1, h2⟩ := h.cons_inv
  obtain ⟨rfl, rfl⟩ := List.append_eq_nil_iff.mp e.symm
  exact ⟨h1, h2⟩
theorem SsI.get : ∀ {ss : List Slot} {vs : List V} (i : Nat) {s : Slot}, SsI G H ss vs [] → ss[i]? = some s → ∃ u, vs[i]? = some u ∧ SlI G H s u []
  | [], _, _, _, _, h => by simp at h
  | _ :: _, [], _, _, h, _ => by cases h
  | _ :: _, v :: _, 0, s, h, e => by
    have e1 := Option.some.inj (show some _ = some s from e)
    subst e1
    exact ⟨v, rfl, h.cons_nil.1⟩
  | _ :: ss, v :: vs, i + 1, s, h, e => SsI.get (ss := ss) (vs := vs) i h.cons_nil.2 (show ss[i]? = some s from e)
theorem SsI.of_get : ∀ {ss : List Slot} {vs : List V}, ss.length = vs.length → (∀ (i : Nat) s u, ss[i]? = some s → vs[i]? = some u → SlI G H s u []) → SsI G H ss vs []
  | [], [], _, _ => .nil
  | [], _ :: _, e, _ => nomatch e
  | _ :: _, [], e, _ => nomatch e
  | s :: ss, v :: vs, e, h => .cons (as := []) (h 0 s v rfl rfl) (SsI.of_get (Nat.succ.inj e) fun i s u h1 h2 => h (i + 1) s u h1 h2)
theorem dqAll_ss {α : Type} [DecidableEq α] [Datum α] : ∀ {xs : List α} {vs : List V}, DqAll G vs (xs.map Datum.toD) → SsI G H (xs.map Slot.val) vs []
  | [], _, h => by cases h; exact .nil
  | x :: xs, _, h => by
    cases h with
    | cons h1 h2 => exact .cons (as := []) (.val h1) (dqAll_ss h2)
theorem ss_dqAll {α : Type} [DecidableEq α] [Datum α] : ∀ {xs : List α} {vs : List V} {as : List Addr}, SsI G H (xs.map Slot.val) vs as → DqAll G vs (xs.map Datum.toD)
  | [], _, _, h => by cases h; exact .nil
  | x :: xs, _, _, h => by
    cases h with
    | cons h1 h2 =>
      cases h1 with
      | val h1 => exact .cons h1 (ss_dqAll h2)
end
section
variable {B : Base} {S : Stt} {T : List Slot} {σ : St} {tv : List V} {H G : Hp} {as bs : List Addr} {x : Slot} {v : V}
theorem St0.sta (z : St0 B S T σ tv H G as bs) : Sta B S T σ tv H := ⟨G, as, bs, z⟩
theorem St0.pop (z : St0 B S (x :: T) σ (v :: tv) H G as bs) : ∃ a1 a2, as = a1 ++ a2 ∧ SlI G H x v a1 ∧ St0 B S T σ tv H G a2 bs := by
  obtain ⟨z1, z2, z3, z4, z5, z6, z7, z8, z9⟩ := z
  cases z1 with
  | @cons _ _ a1 _ _ a2 h1 h2 =>
    refine ⟨a1, a2, rfl, h1, h2, z2, z3, ?_, fun a ha => z5 a ?_, z6, z7, z8, z9⟩
    · rw [List.append_assoc] at z4
      exact (List.nodup_append.mp z4).2.1
    · rw [List.append_assoc]
      exact List.mem_append_right _ ha
theorem St0.fresh (z : St0 B S T σ tv H G as bs) {p : Addr} (hp : H p = none) : ∀ a ∈ as ++ bs, a ≠ p := fun a ha e => by
  subst e
  rcases List.mem_append.mp ha with h | h
  · obtain ⟨o, e⟩ := z.tmp.def a h; rw [hp] at e; cases e
  · obtain ⟨o, e⟩ := z.cel.def a h; rw [hp] at e; cases e
theorem ex_none {H H' : Hp} (e : Ex H H') {p : Addr} (h : H' p = none) : H p = none := by
  cases q : H p with
  | none => rfl
  | some o => rw [e p o q] at h; cases h
theorem ex_upd {H H' : Hp} (e : Ex H H') {p : Addr} {o : HO} (h : H p = none) : Ex H (upd H' p o) := fun a u ha => by rw [upd_ne (ne_of_none ha h)]; exact e a u ha
/-- the heap has one more thing, that nobody owns yet -/
theorem St0.grown (z : St0 B S T σ tv H G as bs) {p : Addr} {o : HO} (hp : H p = none) : St0 B S T σ tv (upd H p o) G as bs :=
  ⟨z.tmp.mono (Ex.refl G) fun a ha => upd_ne (z.fresh hp a (List.mem_append_left _ ha)), z.cel.mono (Ex.refl G) fun a ha => upd_ne (z.fresh hp a (List.mem_append_right _ ha)), z.slo, z.nod, z.fre, z.gro, z.new, ex_upd z.sub (ex_none z.sub hp), ex_upd z.frm (ex_none z.frm hp)⟩
/-- a new thing, owned -/
theorem St0.newO (z : St0 B S T σ tv H G as bs) {p : Addr} {o : HO} {c : Cel} (hp : H p = none) (hc : CeI G (upd H p o) c o []) : Sta B S (.own c :: T) σ (.ref p :: tv) (upd H p o) := by
  obtain ⟨z1, z2, z3, z4, z5, z6, z7, z8, z9⟩ := z.grown (o := o) hp
  refine ⟨G, (p :: []) ++ as, bs, .cons (.own upd_same hc) z1, z2, z3, List.nodup_cons.mpr ⟨fun h => z.fresh hp p h rfl, z4⟩, fun a ha => ?_, z6, z7, z8, z9⟩
  rcases List.mem_cons.mp ha with e | ha
  · subst e
    exact ⟨ex_none z.sub hp, ex_none z.frm hp⟩
  · exact z5 a ha
/-- a new thing, for good -/
theorem St0.newG (z : St0 B S T σ tv H G as bs) {p : Addr} {o : HO} (hp : H p = none) (hx : SlI (upd G p o) (upd H p o) x (.ref p) []) : Sta B S (x :: T) σ (.ref p :: tv) (upd H p o) := by
  have hg : G p = none := ex_none z.sub hp
  have eg : Ex G (upd G p o) := ex_upd (Ex.refl G) hg
  refine ⟨upd G p o, [] ++ as, bs, .cons hx (z.tmp.mono eg fun a ha => upd_ne (z.fresh hp a (List.mem_append_left _ ha))), z.cel.mono eg fun a ha => upd_ne (z.fresh hp a (List.mem_append_right _ ha)), z.slo.mono eg, z.nod, fun a ha => ?_, z.gro.trans eg, fun a u ha => ?_, fun a u ha => ?_, ex_upd z.frm (ex_none z.frm hp)⟩
  · rw [upd_ne (z.fresh hp a ha)]
    exact z.fre a ha
  · by_cases e : a = p
    · subst e
      exact .inr (.inl (ex_none z.frm hp))
    · rw [upd_ne e] at ha
      exact z.new a u ha
  · by_cases e : a = p
    · subst e
      rw [upd_same] at ha ⊢
      exact ha
    · rw [upd_ne e] at ha ⊢
      exact z.sub a u ha
end
/-! ### what is owned, for good -/
section
mutual
inductive FzS : Slot → PyData → Prop where
  | val {α : Type} [DecidableEq α] [Datum α] {x : α} : FzS (.val x) (Datum.toD x)
  | non : FzS (.v .non) .none
  | own {c : Cel} {d : PyData} : FzC c d → FzS (.own c) d
inductive FzC : Cel → PyData → Prop where
  | lst {ss : List Slot} {ds : List PyData} : FzA ss ds → FzC (.lst ss) (.list ds)
inductive FzA : List Slot → List PyData → Prop where
  | nil : FzA [] []
  | cons {s : Slot} {d : PyData} {ss : List Slot} {ds : List PyData} : FzS s d → FzA ss ds → FzA (s :: ss) (d :: ds)
end
theorem fz_map {α : Type} [DecidableEq α] [Datum α] : ∀ xs : List α, FzA (xs.map Slot.val) (xs.map Datum.toD)
  | [] => .nil
  | _ :: xs => .cons .val (fz_map xs)
theorem fz_val {α : Type} [DecidableEq α] [Datum α] (xs : List α) : FzC (.lst (xs.map Slot.val)) (Datum.toD xs) := .lst (fz_map xs)
variable {G G' H : Hp}
mutual
theorem FzS.dq : ∀ {s : Slot} {d : PyData} {u : V} {as : List Addr}, FzS s d → SlI G H s u as → Ex G G' → (∀ a ∈ as, G' a = H a) → Dq G' u d
  | _, _, _, _, @FzS.val α i1 i2 x, h, e, _ => by cases h with | val h => exact dq_mono e h
  | _, _, _, _, .non, .v, _, _ => .non
  | _, _, _, _, .own h, .own hp hc, e, f => FzC.dq h hc ((f _ List.mem_cons_self).trans hp) e fun a ha => f a (List.mem_cons_of_mem _ ha)
theorem FzC.dq : ∀ {c : Cel} {d : PyData} {p : Addr} {o : HO} {as : List Addr}, FzC c d → CeI G H c o as → G' p = some o → Ex G G' → (∀ a ∈ as, G' a = H a) → Dq G' (.ref p) d
  | _, _, _, _, _, .lst h, .lst hs, hp, e, f => .lst hp (FzA.dq h hs e f)
theorem FzA.dq : ∀ {ss : List Slot} {ds : List PyData} {vs : List V} {as : List Addr}, FzA ss ds → SsI G H ss vs as → Ex G G' → (∀ a ∈ as, G' a = H a) → DqAll G' vs ds
  | _, _, _, _, .nil, .nil, _, _ => .nil
  | _, _, _, _, .cons h1 h2, .cons s1 s2, e, f => .cons (FzS.dq h1 s1 e fun a ha => f a (List.mem_append_left _ ha)) (FzA.dq h2 s2 e fun a ha => f a (List.mem_append_right _ ha))
end
end
section
variable {B : Base} {S : Stt} {T : List Slot} {σ : St} {tv : List V} {H G : Hp} {as bs : List Addr} {x : Slot} {v : V}
/-- the addresses fs are said for good -/
theorem St0.froz (z : St0 B S T σ tv H G as bs) (fs : List Addr) (hf : ∀ a ∈ fs, G a = none ∧ B.F a = none ∧ ∃ o, H a = some o) (hn : ∀ a ∈ as ++ bs, a ∉ fs) : ∃ G', Ex G G' ∧ (∀ a ∈ fs, G' a = H a) ∧ St0 B S T σ tv H G' as bs := by
  refine ⟨fun a => if a ∈ fs then H a else G a, fun a o ha => ?_, fun a ha => if_pos ha, ?_⟩
  · have : a ∉ fs := fun h => by rw [(hf a h).1] at ha; cases ha
    show (if a ∈ fs then H a else G a) = some o
    rw [if_neg this]; exact ha
  · have eg : Ex G (fun a => if a ∈ fs then H a else G a) := fun a o ha => by
      have : a ∉ fs := fun h => by rw [(hf a h).1] at ha; cases ha
      show (if a ∈ fs then H a else G a) = some o
      rw [if_neg this]; exact ha
    refine ⟨z.tmp.mono eg fun _ _ => rfl, z.cel.mono eg fun _ _ => rfl, z.slo.mono eg, z.nod, fun a ha => ⟨?_, (z.fre a ha).2⟩, z.gro.trans eg, fun a o ha => ?_, fun a o ha => ?_, z.frm⟩
    · show (if a ∈ fs then H a else G a) = none
      rw [if_neg (hn a ha)]; exact (z.fre a ha).1
    · by_cases h : a ∈ fs
      · exact .inr (.inl (hf a h).2.1)
      · have ha' : (if a ∈ fs then H a else G a) = some o := ha
        rw [if_neg h] at ha'; exact z.new a o ha'
    · have ha' : (if a ∈ fs then H a else G a) = some o := ha
      by_cases h : a ∈ fs
      · rw [if_pos h] at ha'; exact ha'
      · rw [if_neg h] at ha'; exact z.sub a o ha'
/-- a temporary thing that is data, for good -/
theorem Sta.frz {d : PyData} (f : FzS x d) (h : Sta B S (x :: T) σ (v :: tv) H) {y : Slot} (hy : ∀ G, Dq G v d → SlI G H y v []) : Sta B S (y :: T) σ (v :: tv) H := by
  obtain ⟨G, as, bs, z⟩ := h
  obtain ⟨a1, a2, rfl, h1, z'⟩ := z.pop
  obtain ⟨G', e, g, z2⟩ := z'.froz a1 (fun a ha => ⟨(z.fre a (by simp [ha])).1, (z.fre a (by simp [ha])).2, h1.def a ha⟩) (fun a ha hb => by
    have nd := z.nod
    rw [List.append_assoc] at nd
    exact (List.nodup_append.mp nd).2.2 a hb a ha rfl)
  exact ⟨G', [] ++ a2, bs, .cons (hy G' (f.dq h1 e g)) z2.tmp, z2.cel, z2.slo, z2.nod, z2.fre, z2.gro, z2.new, z2.sub, z2.frm⟩
end
section
variable {X : Cx} {B : Base} {S S1 S2 S3 : Stt} {x y z : Slot} {a b e : Expr} {es : List Expr} {pos : Pos} {D : FE} {rest : List Stmt}
theorem je_frz {α : Type} [DecidableEq α] [Datum α] {t : α} (h : JE X B S e S1 x) (f : FzS x (Datum.toD t)) : JE X B S e S1 (.val t) := fun T tv σ H Q hs q => h _ _ _ _ _ hs fun v H' g => q v H' (g.frz f fun G d => .val d)
theorem je_frL {α : Type} [DecidableEq α] [Datum α] {xs : List α} (h : JE X B S e S1 (.own (.lst (xs.map Slot.val)))) : JE X B S e S1 (.val xs) := je_frz h (.own (fz_val xs))
/-! ### displays -/
def SlD (x : Slot) (d : PyData) : Prop := ∀ {G H u as}, SlI G H x u as → Dq G u d
theorem sld_val {α : Type} [DecidableEq α] [Datum α] {t : α} : SlD (.val t) (Datum.toD t) := fun h => by cases h with | val h => exact h
inductive SlDs : List Slot → List PyData → Prop where
  | nil : SlDs [] []
  | cons {s : Slot} {d : PyData} {ss : List Slot} {ds : List PyData} : SlD s d → SlDs ss ds → SlDs (s :: ss) (d :: ds)
theorem SlDs.all : ∀ {ss : List Slot} {ds : List PyData} {G H : Hp} {vs : List V} {as : List Addr}, SlDs ss ds → SsI G H ss vs as → DqAll G vs ds
  | _, _, _, _, _, _, .nil, .nil => .nil
  | _, _, _, _, _, _, .cons h1 h2, .cons s1 s2 => .cons (h1 s1) (h2.all s2)
theorem St0.split {B : Base} {S : Stt} {xs T : List Slot} {σ : St} {vs tv : List V} {H G : Hp} {as bs : List Addr} (z : St0 B S (xs ++ T) σ (vs ++ tv) H G as bs) (hl : xs.length = vs.length) : ∃ a1 a2, as = a1 ++ a2 ∧ SsI G H xs vs a1 ∧ St0 B S T σ tv H G a2 bs := by
  obtain ⟨z1, z2, z3, z4, z5, z6, z7, z8, z9⟩ := z
  obtain ⟨a1, a2, rfl, h1, h2⟩ := SsI.split hl z1
  refine ⟨a1, a2, rfl, h1, h2, z2, z3, ?_, fun a ha => z5 a ?_, z6, z7, z8, z9⟩
  · rw [List.append_assoc] at z4
    exact (List.nodup_append.mp z4).2.1
  · rw [List.append_assoc]
    exact List.mem_append_right _ ha
/-- a written tuple -/
theorem je_tup {α : Type} [DecidableEq α] [Datum α] {t : α} {xs : List Slot} {ds : List PyData} {k : Nat} (ha : JA X B S es S1 xs) (hd : SlDs xs ds) (ht : Datum.toD t = .tuple ds) (hl : xs.length ≤ 1000) : JE X B S (.Tuple es k pos) S1 (.val t) := fun T tv σ H Q hs q =>
  pe1 (pe_tup pa0) (ha _ _ _ _ _ hs fun vs H1 he h1 => ⟨Nat.le_trans (Nat.le_of_eq he) (Nat.le_trans hl (by decide)), fun p hp => by
    obtain ⟨G, as, bs, z⟩ := h1
    obtain ⟨a1, a2, rfl, g1, z'⟩ := z.split he.symm
    refine q _ _ (z'.newG hp (.val ?_))
    rw [ht]
    exact .tup upd_same (dqAll_mono (ex_upd (Ex.refl G) (ex_none z'.sub hp)) (hd.all g1))⟩)
/-- a written list -/
theorem je_lst {xs : List Slot} (ha : JA X B S es S1 xs) (hl : xs.length ≤ 1000) : JE X B S (.List es pos) S1 (.own (.lst xs)) := fun T tv σ H Q hs q =>
  pe1 (pe_lst pa0) (ha _ _ _ _ _ hs fun vs H1 he h1 => ⟨Nat.le_trans (Nat.le_of_eq he) (Nat.le_trans hl (by decide)), fun p hp => by
    obtain ⟨G, as, bs, z⟩ := h1
    obtain ⟨z1, z2, z3, z4, z5, z6, z7, z8, z9⟩ := z.grown (o := .lst vs) hp
    obtain ⟨a1, a2, rfl, g1, g2⟩ := SsI.split he.symm z1
    refine q _ _ ⟨G, (p :: a1) ++ a2, bs, .cons (.own upd_same (.lst g1)) g2, z2, z3, List.nodup_cons.mpr ⟨fun h => z.fresh hp p h rfl, z4⟩, fun a ha => ?_, z6, z7, z8, z9⟩
    rcases List.mem_cons.mp ha with e | ha
    · subst e
      exact ⟨ex_none z.sub hp, ex_none z.frm hp⟩
    · exact z5 a ha⟩)
end
end J
namespace J
universe u w
open PySem L2
open PySem.W (Datum)
/-! ### the mirror's lists -/
def gx {α : Type u} (xs : List α) (i : Int) : Option α := if 0 ≤ i then xs[i.toNat]? else if -(xs.length : Int) ≤ i then xs[(i + xs.length).toNat]? else none
/-- the place that an index means -/
def ixp (n : Nat) (i : Int) : Option Nat := if 0 ≤ i then (if i < n then some i.toNat else none) else if -(n : Int) ≤ i then some (i + n).toNat else none
def sx (n d : Nat) : Option Int → Nat
  | none => d
  | some v => if v < 0 then (v + (n : Int)).toNat else min v.toNat n
def slc {α : Type u} (xs : List α) (lo hi : Option Int) : List α := (xs.drop (sx xs.length 0 lo)).take (sx xs.length xs.length hi - sx xs.length 0 lo)
def psh {α : Type u} (xs : List α) (x : α) : Option (List α) := if xs.length < 16777216 then some (xs ++ [x]) else none
def stx {α : Type u} (xs : List α) (i : Int) (x : α) : Option (List α) := (ixp xs.length i).bind fun j => some (xs.set j x)
theorem sx_eq (n d : Nat) (o : Option Int) : sx n d o = HT.sIx n d o := by cases o <;> rfl
theorem atI_gx {α : Type} (xs : List α) (i : Int) : atI xs i = gx xs i := by
  unfold atI ixN gx
  by_cases h : 0 ≤ i
  · rw [if_pos h, if_pos h]
    by_cases h2 : i < xs.length
    · rw [if_pos h2]; rfl
    · rw [if_neg h2, List.getElem?_eq_none (by omega)]; rfl
  · rw [if_neg h, if_neg h]
    by_cases h2 : -(xs.length : Int) ≤ i
    · rw [if_pos h2, if_pos h2]; rfl
    · rw [if_neg h2, if_neg h2]; rfl
theorem gx_ixp {α : Type u} (xs : List α) (i : Int) : gx xs i = (ixp xs.length i).bind fun j => xs[j]? := by
  unfold ixp gx
  by_cases h : 0 ≤ i
  · rw [if_pos h, if_pos h]
    by_cases h2 : i < xs.length
    · rw [if_pos h2]; rfl
    · rw [if_neg h2, List.getElem?_eq_none (by omega)]; rfl
  · rw [if_neg h, if_neg h]
    by_cases h2 : -(xs.length : Int) ≤ i
    · rw [if_pos h2, if_pos h2]; rfl
    · rw [if_neg h2, if_neg h2]; rfl
theorem gx_map {α : Type u} {β : Type w} (f : α → β) (xs : List α) (i : Int) : gx (xs.map f) i = (gx xs i).map f := by
  unfold gx
  rw [List.length_map]
  by_cases h : 0 ≤ i
  · rw [if_pos h, if_pos h, List.getElem?_map]
  · rw [if_neg h, if_neg h]
    by_cases h2 : -(xs.length : Int) ≤ i
    · rw [if_pos h2, if_pos h2, List.getElem?_map]
    · rw [if_neg h2, if_neg h2]; rfl
theorem slc_map {α : Type u} {β : Type w} (f : α → β) (xs : List α) (lo hi : Option Int) : slc (xs.map f) lo hi = (slc xs lo hi).map f := by
  unfold slc
  rw [List.length_map, List.map_take, List.map_drop]
theorem psh_some {α : Type u} {xs : List α} {x : α} {ys : List α} (h : psh xs x = some ys) : xs.length < 16777216 ∧ ys = xs ++ [x] := by
  unfold psh at h
  split at h
  · exact ⟨by assumption, (Option.some.inj h).symm⟩
  · cases h
/-! ### lists that are read -/
section
variable {G H : Hp}
def Lv (K : PySem.W.Frag) (B : Base) (S : Stt) (x : Slot) (ss : List Slot) : Prop := ∀ {T σ v tv H G as bs}, St0 B S (x :: T) σ (v :: tv) H G as bs → ∃ a vs, v = .ref a ∧ SqL K H a vs ∧ SsI G H ss vs []
variable {K : PySem.W.Frag} {B : Base} {S : Stt}
theorem lv_val {α : Type} [DecidableEq α] [Datum α] {xs : List α} : Lv K B S (.val xs) (xs.map Slot.val) := fun z => by
  obtain ⟨a1, a2, _, h, z'⟩ := z.pop
  cases h with
  | val h =>
    generalize hd : Datum.toD xs = d at h
    have e : d = .list (xs.map Datum.toD) := hd.symm
    subst e
    cases h with
    | lst hp ha => exact ⟨_, _, rfl, .of (z.sub _ _ hp), dqAll_ss ha⟩
theorem lv_own {ss : List Slot} (hp : ∀ s ∈ ss, s.plain = true) : Lv K B S (.own (.lst ss)) ss := fun z => by
  obtain ⟨a1, a2, _, h, z'⟩ := z.pop
  cases h with
  | own hp' hc =>
    cases hc with
    | lst hs => exact ⟨_, _, rfl, .of hp', hs.plain hp ▸ hs⟩
theorem plain_map {α : Type} [DecidableEq α] [Datum α] (xs : List α) : ∀ s ∈ xs.map Slot.val, s.plain = true := fun s hs => by
  obtain ⟨x, _, rfl⟩ := List.mem_map.mp hs
  rfl
theorem lv_own' {α : Type} [DecidableEq α] [Datum α] {xs : List α} : Lv K B S (.own (.lst (xs.map Slot.val))) (xs.map Slot.val) := lv_own (plain_map xs)
theorem lv_cell (k : Nat) {p : Addr} {ss : List Slot} (hk : S.cs[k]? = some (p, .lst ss)) (hp : ∀ s ∈ ss, s.plain = true) : Lv K B S (.v (.ref p)) ss := fun z => by
  obtain ⟨a1, a2, _, h, z'⟩ := z.pop
  cases h with
  | v =>
    obtain ⟨l, o, m, r, _, hp', hc, _⟩ := z.cel.at k hk (by intro e; cases e)
    cases hc with
    | lst hs => exact ⟨_, _, rfl, .of hp', hs.plain hp ▸ hs⟩
theorem lv_cell' {α : Type} [DecidableEq α] [Datum α] (k : Nat) {p : Addr} {xs : List α} (hk : S.cs[k]? = some (p, .lst (xs.map Slot.val))) : Lv K B S (.v (.ref p)) (xs.map Slot.val) := lv_cell k hk (plain_map xs)
/-- the script, and what else is known ahead -/
theorem lv_pre {p : Addr} {ns : List Int} (h : SqL K B.G p (ns.map V.int)) : Lv K B S (.v (.ref p)) (ns.map Slot.val) := fun z => by
  obtain ⟨a1, a2, _, h', z'⟩ := z.pop
  cases h' with
  | v =>
    refine ⟨_, _, rfl, h.imp (fun r => r.imp (fun q => z.sub _ _ (z.gro _ _ q)) fun ⟨o, q⟩ => ⟨o, z.sub _ _ (z.gro _ _ q)⟩) id, ?_⟩
    exact SsI.of_get (by simp) fun i s u h1 h2 => by
      rw [List.getElem?_map] at h1 h2
      cases q : ns[i]? with
      | none => rw [q] at h1; cases h1
      | some n =>
        rw [q] at h1 h2
        cases h1
        cases h2
        exact .val (.int n)
end
section
variable {X : Cx} {B : Base} {S S1 S2 S3 : Stt} {x y z : Slot} {a b e : Expr} {es : List Expr} {pos : Pos} {D : FE} {rest : List Stmt} {ss : List Slot}
/-! ### built-ins by name -/
def OC (B : Base) (r : List V → Hp → VK → Prop) (S : Stt) (xs : List Slot) (S' : Stt) (z : Slot) : Prop := ∀ T tv σ vs H Q, vs.length = xs.length → Sta B S (xs ++ T) σ (vs ++ tv) H → (∀ w H', Sta B S' (z :: T) σ (w :: tv) H' → Q w H') → r vs H Q
theorem je_callB {r : List V → Hp → VK → Prop} {id : String} {n : Str} {p : Pos} {xs : List Slot} (hc : CallR X (.builtin id) r) (hm : X.mg n = none) (hv : bootBuiltins n = some (.builtin id)) (ha : JA X B S (e :: es) S1 xs) (hr : OC B r S1 xs S2 z) (hg : Gl X n := by rfl) (hn : n ≠ "__name__" := by decide) (hdb : (n == ("__debug__" : Str)) = false := by decide)
    (he : starEach (e :: es) X.env = (false, eval e X.env) :: starEach es X.env := by rfl) (hpl : (backTo pos (starEach es X.env)).any (·.1) = false := by rfl) : JE X B S (.Call (.Name n p) (e :: es) [] pos) S2 z := fun T tv σ H Q hs q =>
  pe1 (pe_callB hc hg hm hv pa0 hn hdb he hpl) (ha _ _ _ _ _ hs fun vs H1 hl h1 => hr _ _ _ _ _ _ hl h1 q)
theorem oc1 {r : List V → Hp → VK → Prop} (h : ∀ T tv σ v H Q, Sta B S (x :: T) σ (v :: tv) H → (∀ w H', Sta B S2 (z :: T) σ (w :: tv) H' → Q w H') → r [v] H Q) : OC B r S [x] S2 z := fun T tv σ vs H Q hl hs q => match vs, hl with
  | [v], _ => h T tv σ v H Q hs q
theorem oc2 {r : List V → Hp → VK → Prop} (h : ∀ T tv σ v u H Q, Sta B S (x :: y :: T) σ (v :: u :: tv) H → (∀ w H', Sta B S2 (z :: T) σ (w :: tv) H' → Q w H') → r [v, u] H Q) : OC B r S [x, y] S2 z := fun T tv σ vs H Q hl hs q => match vs, hl with
  | [v, u], _ => h T tv σ v u H Q hs q
theorem je_len {n : Str} {p : Pos} {α : Type} [DecidableEq α] [Datum α] {xs : List α} (hm : X.mg "len" = none) (ha : JE X B S e S1 x) (hl : Lv X.K B S1 x (xs.map Slot.val)) (hg : Gl X "len" := by rfl) (hst : starEach [e] X.env = (false, eval e X.env) :: starEach [] X.env := by rfl) : JE X B S (.Call (.Name "len" p) [e] [] pos) S1 (.val (xs.length : Int)) :=
  je_callB call_len_seq hm boot_len (ja_cons ha ja_nil hst) (oc1 fun T tv σ v H Q hs q => by
    obtain ⟨G, as, bs, z⟩ := id hs
    obtain ⟨a, vs, rfl, hr, hss⟩ := hl z
    refine ⟨a, vs, rfl, .inl hr, ?_⟩
    have := hss.len
    rw [List.length_map] at this
    rw [← this]
    exact q _ _ (hs.drop.push fun _ _ => sl_int _)) hg (by decide) (by decide) hst
/-! ### items, slices -/
theorem je_ix {s : Slot} {i : Int} (ha : JE X B S a S1 x) (hb : JE X B S1 b S2 (.val i)) (hl : Lv X.K B S2 x ss) (hi : gx ss i = some s) (hs : PlainIx b := by exact fun _ _ => rfl) : JE X B S (.Subscript a b pos) S2 s := fun T tv σ H Q h q =>
  pe1 (pe_ix ix_list pe0 pe0 hs) (ha _ _ _ _ _ h fun v H1 h1 => hb _ _ _ _ _ h1 fun u H2 h2 => by
    have e := h2.int
    subst e
    have h3 := h2.drop
    obtain ⟨G, as, bs, z⟩ := id h3
    obtain ⟨p, vs, rfl, hr, hss⟩ := hl z
    obtain ⟨a1, a2, rfl, _, z'⟩ := z.pop
    rw [gx_ixp] at hi
    cases hj : ixp ss.length i with
    | none => rw [hj] at hi; cases hi
    | some j =>
      rw [hj] at hi
      obtain ⟨w, hw, sw⟩ := hss.get j hi
      refine ⟨p, vs, i, w, rfl, rfl, hr, ?_, q w H2 ⟨G, [] ++ a2, bs, .cons sw z'.tmp, z'.cel, z'.slo, z'.nod, z'.fre, z'.gro, z'.new, z'.sub, z'.frm⟩⟩
      rw [atI_gx, gx_ixp, ← hss.len, hj]
      exact hw)
theorem je_ixv {α : Type} [DecidableEq α] [Datum α] {xs : List α} {t : α} {i : Int} (ha : JE X B S a S1 x) (hb : JE X B S1 b S2 (.val i)) (hl : Lv X.K B S2 x (xs.map Slot.val)) (hi : gx xs i = some t) (hs : PlainIx b := by exact fun _ _ => rfl) : JE X B S (.Subscript a b pos) S2 (.val t) :=
  je_ix ha hb hl (by rw [gx_map, hi]; rfl) hs
/-- a slice's part -/
def JO (X : Cx) (B : Base) (S : Stt) (e : Option Expr) (S' : Stt) (o : Option Int) : Prop := ∀ T tv σ H (Q : Option Int → Hp → Prop), Sta B S T σ tv H → (∀ H', Sta B S' T σ tv H' → Q o H') → ∃ t, PO X e t ∧ t σ H Q
def toOf (X : Cx) (e : Option Expr) : TO := fun σ H Q => ∃ t, PO X e t ∧ t σ H Q
theorem po0 {o : Option Expr} : PO X o (toOf X o) := ⟨fun pins s σ H Q I ⟨_, hp, h⟩ => hp.run pins s σ H Q I h⟩
theorem jo_none : JO X B S none S none := fun T tv σ H Q hs q => ⟨_, po_none, q H hs⟩
theorem jo_some {i : Int} (h : JE X B S e S1 (.val i)) : JO X B S (some e) S1 (some i) := fun T tv σ H Q hs q => ⟨_, po_some pe0, h _ _ _ _ _ hs fun v H' g => by
  have e := g.int
  subst e
  exact ⟨i, rfl, q _ g.drop⟩⟩
theorem cutV_slc (vs : List V) (lo hi : Option Int) : cutV vs lo hi = slc vs lo hi := by unfold cutV slc; rw [sx_eq, sx_eq]
theorem slc_get {α : Type u} {β : Type w} (f : α → β → Prop) {xs : List α} {ys : List β} (lo hi : Option Int) (hl : xs.length = ys.length) (h : ∀ (i : Nat) s u, xs[i]? = some s → ys[i]? = some u → f s u) : ∀ (i : Nat) s u, (slc xs lo hi)[i]? = some s → (slc ys lo hi)[i]? = some u → f s u := fun i s u h1 h2 => by
  unfold slc at h1 h2
  rw [hl] at h1
  rw [List.getElem?_take] at h1 h2
  split at h1
  · rw [if_pos (by assumption)] at h2
    rw [List.getElem?_drop] at h1 h2
    exact h _ _ _ h1 h2
  · cases h1
theorem slc_len {α : Type u} {β : Type w} {xs : List α} {ys : List β} (lo hi : Option Int) (hl : xs.length = ys.length) : (slc xs lo hi).length = (slc ys lo hi).length := by
  unfold slc
  rw [List.length_take, List.length_take, List.length_drop, List.length_drop, hl]
theorem je_slc {lo hi : Option Expr} {l h : Option Int} {p2 : Pos} (ha : JE X B S a S1 x) (hlo : JO X B S1 lo S2 l) (hhi : JO X B S2 hi S3 h) (hl : Lv X.K B S3 x ss) : JE X B S (.Subscript a (.Slice lo hi none p2) pos) S3 (.own (.lst (slc ss l h))) := fun T tv σ H Q g q =>
  pe1 (pe_slice sl_list pe0 po0 po0) (ha _ _ _ _ _ g fun v H1 h1 => hlo _ _ _ _ _ h1 fun H2 h2 => hhi _ _ _ _ _ h2 fun H3 h3 => by
    obtain ⟨G, as, bs, z⟩ := h3
    obtain ⟨p, vs, rfl, hr, hss⟩ := hl z
    obtain ⟨a1, a2, rfl, _, z'⟩ := z.pop
    refine ⟨p, vs, rfl, hr, fun q' hq => ?_⟩
    refine q _ _ (z'.newO hq ?_)
    rw [cutV_slc]
    have cut : SsI G H3 (slc ss l h) (slc vs l h) [] := SsI.of_get (slc_len l h hss.len) (slc_get (fun s u => SlI G H3 s u []) l h hss.len fun i s u h1 h2 => by
      obtain ⟨u', e1, e2⟩ := hss.get i h1
      rw [h2] at e1
      cases e1
      exact e2)
    exact .lst (cut.mono (Ex.refl G) fun _ h => nomatch h))
theorem je_slcv {α : Type} [DecidableEq α] [Datum α] {xs : List α} {lo hi : Option Expr} {l h : Option Int} {p2 : Pos} (ha : JE X B S a S1 x) (hlo : JO X B S1 lo S2 l) (hhi : JO X B S2 hi S3 h) (hl : Lv X.K B S3 x (xs.map Slot.val)) : JE X B S (.Subscript a (.Slice lo hi none p2) pos) S3 (.own (.lst ((slc xs l h).map Slot.val))) :=
  slc_map Slot.val xs l h ▸ je_slc ha hlo hhi hl
end
end J
namespace J
universe u w
open PySem L2
open PySem.W (Datum)
section
variable {B : Base} {S : Stt} {T : List Slot} {σ : St} {tv : List V} {H G : Hp} {as bs : List Addr} {x : Slot} {v : V}
/-- the thing of the k-th cell, and what may be written in its place: less, or as much, owned -/
theorem St0.cellW (z : St0 B S T σ tv H G as bs) {k : Nat} {p : Addr} {c : Cel} (hk : S.cs[k]? = some (p, c)) (hg : c ≠ .gone) :
    ∃ o m, H p = some o ∧ CeI G H c o m ∧ G p = none ∧ (∀ a ∈ m, a ≠ p) ∧ (∀ a ∈ as, a ≠ p) ∧ ∀ {c' : Cel} {o' : HO} {m' : List Addr}, CeI G (upd H p o') c' o' m' → m'.Sublist m → ∃ bs', St0 B ⟨S.sl, S.cs.set k (p, c')⟩ T σ tv (upd H p o') G as bs' := by
  obtain ⟨l, o, m, r, rfl, hp, hc, reb⟩ := z.cel.at k hk hg
  have nd := z.nod
  have pm : (as ++ (l ++ (p :: m) ++ r)).Perm (p :: (m ++ ((as ++ l) ++ r))) := by
    have e1 : (l ++ (p :: m) ++ r).Perm ((p :: m) ++ (l ++ r)) := by
      rw [List.append_assoc]
      exact (List.perm_append_comm (l₁ := l)).trans (by rw [List.append_assoc]; exact List.Perm.append_left _ List.perm_append_comm)
    have e2 : (as ++ ((p :: m) ++ (l ++ r))).Perm ((p :: m) ++ (as ++ (l ++ r))) := by
      rw [← List.append_assoc, ← List.append_assoc (p :: m)]
      exact List.Perm.append_right _ List.perm_append_comm
    have e3 := (List.Perm.append_left as e1).trans e2
    rw [← List.append_assoc as l r] at e3
    exact e3
  have nd2 := pm.nodup_iff.mp nd
  have nd3 := List.nodup_cons.mp nd2
  have hpm : ∀ a ∈ m, a ≠ p := fun a ha e => nd3.1 (by rw [← e]; exact List.mem_append_left _ ha)
  have hpa : ∀ a ∈ as, a ≠ p := fun a ha e => nd3.1 (by rw [← e]; exact List.mem_append_right _ (List.mem_append_left _ (List.mem_append_left _ ha)))
  have hpl : ∀ a ∈ l ++ r, a ≠ p := fun a ha e => nd3.1 (by
    rw [← e]
    rcases List.mem_append.mp ha with h | h
    · exact List.mem_append_right _ (List.mem_append_left _ (List.mem_append_right _ h))
    · exact List.mem_append_right _ (List.mem_append_right _ h))
  have mp : p ∈ as ++ (l ++ (p :: m) ++ r) := pm.mem_iff.mpr List.mem_cons_self
  refine ⟨o, m, hp, hc, (z.fre p mp).1, hpm, hpa, fun {c' o' m'} hc' hs => ⟨l ++ (p :: m') ++ r, ?_⟩⟩
  have sub : (as ++ (l ++ (p :: m') ++ r)).Sublist (as ++ (l ++ (p :: m) ++ r)) := (List.Sublist.refl as).append (((List.Sublist.refl l).append (hs.cons_cons p)).append (List.Sublist.refl r))
  exact ⟨z.tmp.mono (Ex.refl G) fun a ha => upd_ne (hpa a ha), (reb (Ex.refl G) fun a ha => upd_ne (hpl a ha)).1 upd_same hc', z.slo, sub.nodup nd, fun a ha => z.fre a (sub.mem ha), z.gro, z.new,
    fun a u ha => by rw [upd_ne (by intro e; subst e; rw [(z.fre a mp).1] at ha; cases ha)]; exact z.sub a u ha, fun a u ha => by rw [upd_ne (by intro e; subst e; rw [(z.fre a mp).2] at ha; cases ha)]; exact z.frm a u ha⟩
theorem St0.push (z : St0 B S T σ tv H G as bs) (h : SlI G H x v []) : Sta B S (x :: T) σ (v :: tv) H := ⟨G, [] ++ as, bs, .cons h z.tmp, z.cel, z.slo, z.nod, z.fre, z.gro, z.new, z.sub, z.frm⟩
theorem SlI.any' {G H H' : Hp} (h : SlI G H x v []) : SlI G H' x v [] := h.mono (Ex.refl G) fun _ h => nomatch h
theorem SsI.any' {G H H' : Hp} {ss : List Slot} {vs : List V} (h : SsI G H ss vs []) : SsI G H' ss vs [] := h.mono (Ex.refl G) fun _ h => nomatch h
end
section
variable {X : Cx} {B : Base} {S S1 S2 S3 : Stt} {x y z : Slot} {a b e o : Expr} {es : List Expr} {pos apos : Pos} {D : FE} {rest : List Stmt} {ss : List Slot} {p : Addr}
/-! ### a method of a list that has a name -/
/-- with arguments: the object, then the arguments, then what the method asks -/
theorem je_bm {id : String} {r : V → List V → Hp → VK → Prop} {name : Str} {xs : List Slot} {ss0 : List Slot} (k : Nat) (slot : PySem.Slot "list" name id) (hty : typeOf (.builtin id) = pure (.type "method_descriptor")) (hm : MtR X id r) (ho : JE X B S o S1 (.v (.ref p))) (hk : S1.cs[k]? = some (p, .lst ss0)) (ha : JA X B S1 (e :: es) S2 xs)
    (hr : ∀ T tv σ vs H Q, vs.length = xs.length → Sta B S2 (xs ++ T) σ (vs ++ tv) H → (∀ w H', Sta B S3 (z :: T) σ (w :: tv) H' → Q w H') → r (.ref p) vs H Q)
    (hbase : attributeBase o name X.env (eval o X.env) = eval o X.env := by rfl)
    (hfew : ((backTo pos (starEach (e :: es) X.env)).all (fun x => !x.1) && (backToKw pos (keywordEach [] X.env)).all (fun x => x.1.isSome) && decide ((e :: es).length + ([] : List Keyword).length + (if ([] : List Keyword).isEmpty then 0 else 1) < 30)) = true := by rfl)
    (hline : (apos.endLine == pos.line) = true := by rfl) (hs : starEach (e :: es) X.env = (false, eval e X.env) :: starEach es X.env := by rfl) (hplain : (backTo pos (starEach es X.env)).any (·.1) = false := by rfl) : JE X B S (.Call (.Attribute o name apos) (e :: es) [] pos) S3 z := fun T tv σ H Q h q =>
  pe1 (pe_bm PySem.F.plainAttrs_list slot hty hm pe0 pa0 hbase hfew hline hs hplain) (ho _ _ _ _ _ h fun v H1 h1 => by
    have e := h1.exact
    subst e
    have h2 := h1.drop
    have h2' := h2
    obtain ⟨G, as, bs, z0⟩ := h2'
    obtain ⟨oo, m, hp, hc, _⟩ := z0.cellW hk (by intro e; cases e)
    cases hc with
    | lst hs => exact ⟨.inl ⟨rfl, _, .of hp⟩, ha _ _ _ _ _ h2 fun vs H3 hl h3 => hr _ _ _ _ _ _ hl h3 q⟩)
theorem je_bm0 {id : String} {r : V → List V → Hp → VK → Prop} {name : Str} {ss0 : List Slot} (k : Nat) (slot : PySem.Slot "list" name id) (hty : typeOf (.builtin id) = pure (.type "method_descriptor")) (hm : MtR X id r) (ho : JE X B S o S1 (.v (.ref p))) (hk : S1.cs[k]? = some (p, .lst ss0))
    (hr : ∀ T tv σ H Q, Sta B S1 T σ tv H → (∀ w H', Sta B S3 (z :: T) σ (w :: tv) H' → Q w H') → r (.ref p) [] H Q)
    (hbase : attributeBase o name X.env (eval o X.env) = eval o X.env := by rfl) (hline : (apos.endLine == pos.line) = true := by rfl) : JE X B S (.Call (.Attribute o name apos) [] [] pos) S3 z := fun T tv σ H Q h q =>
  pe1 (pe_bm0 PySem.F.plainAttrs_list slot hty hm pe0 hbase hline) (ho _ _ _ _ _ h fun v H1 h1 => by
    have e := h1.exact
    subst e
    have h2 := h1.drop
    have h2' := h2
    obtain ⟨G, as, bs, z0⟩ := h2'
    obtain ⟨oo, m, hp, hc, _⟩ := z0.cellW hk (by intro e; cases e)
    cases hc with
    | lst hs => exact ⟨.inl ⟨rfl, _, .of hp⟩, hr _ _ _ _ _ h2 q⟩)
theorem je_append (k : Nat) (ho : JE X B S o S1 (.v (.ref p))) {ss0 : List Slot} (hk0 : S1.cs[k]? = some (p, .lst ss0)) (he : JE X B S1 e S2 y) (hk : S2.cs[k]? = some (p, .lst ss)) (hl : ss.length < 16777216) (hy : y.plain = true := by rfl)
    (hbase : attributeBase o "append" X.env (eval o X.env) = eval o X.env := by rfl) (hst : starEach [e] X.env = (false, eval e X.env) :: starEach [] X.env := by rfl)
    (hfew : ((backTo pos (starEach [e] X.env)).all (fun x => !x.1) && (backToKw pos (keywordEach [] X.env)).all (fun x => x.1.isSome) && decide (([e] : List Expr).length + ([] : List Keyword).length + (if ([] : List Keyword).isEmpty then 0 else 1) < 30)) = true := by rfl)
    (hline : (apos.endLine == pos.line) = true := by rfl) : JE X B S (.Call (.Attribute o "append" apos) [e] [] pos) ⟨S2.sl, S2.cs.set k (p, .lst (ss ++ [y]))⟩ (.v .non) :=
  je_bm k PySem.F.slot_list_append PySem.F.type_list_append mt_append ho hk0 (ja_cons he ja_nil hst) (fun T tv σ vs H Q hl' h q => by
    obtain ⟨v, rfl⟩ : ∃ v, vs = [v] := match vs, hl' with | [v], _ => ⟨v, rfl⟩
    obtain ⟨G, as, bs, z0⟩ := id h
    obtain ⟨a1, a2, rfl, hs1, z1⟩ := z0.pop
    obtain rfl := hs1.nil hy
    obtain ⟨oo, m, hp, hc, _, hm1, _, reb⟩ := z1.cellW hk (by intro e; cases e)
    cases hc with
    | @lst _ vs0 _ hs =>
      have hz : vs0.length < sizeLine := by rw [← hs.len]; exact hl
      refine ⟨p, vs0, v, rfl, rfl, hp, hz, ?_⟩
      have hnew : CeI G (upd H p (.lst (vs0 ++ [v]))) (.lst (ss ++ [y])) (.lst (vs0 ++ [v])) (m ++ []) := .lst ((hs.mono (Ex.refl G) fun a ha => upd_ne (hm1 a ha)).app (SsI.one hs1.any'))
      obtain ⟨bs', z3⟩ := reb hnew (by rw [List.append_nil]; exact List.Sublist.refl m)
      exact q _ _ (z3.push .v)) hbase hfew hline hst
/-- pop(i) -/
theorem je_popAt (k : Nat) {i : Int} {j : Nat} (ho : JE X B S o S1 (.v (.ref p))) {ss0 : List Slot} (hk0 : S1.cs[k]? = some (p, .lst ss0)) (he : JE X B S1 e S2 (.val i)) (hk : S2.cs[k]? = some (p, .lst ss)) (hp : ∀ s ∈ ss, s.plain = true) {s : Slot} (hj : ixp ss.length i = some j) (hl : ss[j]? = some s) (h63 : ss.length ≤ 16777216)
    (hbase : attributeBase o "pop" X.env (eval o X.env) = eval o X.env := by rfl) (hst : starEach [e] X.env = (false, eval e X.env) :: starEach [] X.env := by rfl)
    (hfew : ((backTo pos (starEach [e] X.env)).all (fun x => !x.1) && (backToKw pos (keywordEach [] X.env)).all (fun x => x.1.isSome) && decide (([e] : List Expr).length + ([] : List Keyword).length + (if ([] : List Keyword).isEmpty then 0 else 1) < 30)) = true := by rfl)
    (hline : (apos.endLine == pos.line) = true := by rfl) : JE X B S (.Call (.Attribute o "pop" apos) [e] [] pos) ⟨S2.sl, S2.cs.set k (p, .lst (ss.eraseIdx j))⟩ s :=
  je_bm k PySem.F.slot_list_pop PySem.F.type_list_pop mt_popAt ho hk0 (ja_cons he ja_nil hst) (fun T tv σ vs H Q hl' h q => by
    obtain ⟨v, rfl⟩ : ∃ v, vs = [v] := match vs, hl' with | [v], _ => ⟨v, rfl⟩
    have e := h.int
    subst e
    obtain ⟨G, as, bs, z1⟩ := h.drop
    obtain ⟨oo, m, hpp, hc, _, hm1, _, reb⟩ := z1.cellW hk (by intro e; cases e)
    cases hc with
    | @lst _ vs0 _ hs =>
      obtain rfl := hs.plain hp
      obtain ⟨u, hu, su⟩ := hs.get _ hl
      have hx : ixN vs0.length i = some j := by rw [← hs.len]; exact hj
      obtain ⟨x1, x2, x3, x4⟩ := ixN_seq hx
      have hlen := hs.len
      refine ⟨p, vs0, i, j, u, rfl, rfl, hpp, by omega, by omega, x1, hu, ?_⟩
      have hnew : CeI G (upd H p (.lst (vs0.eraseIdx j))) (.lst (ss.eraseIdx j)) (.lst (vs0.eraseIdx j)) [] := .lst (SsI.of_get (by rw [List.length_eraseIdx, List.length_eraseIdx, hs.len]) fun i s u h1 h2 => by
        rw [List.getElem?_eraseIdx] at h1 h2
        split at h1
        · rw [if_pos (by assumption)] at h2
          obtain ⟨u', e1, e2⟩ := hs.get _ h1
          rw [h2] at e1
          cases e1
          exact e2.any'
        · rw [if_neg (by assumption)] at h2
          obtain ⟨u', e1, e2⟩ := hs.get _ h1
          rw [h2] at e1
          cases e1
          exact e2.any')
      obtain ⟨bs', z3⟩ := reb hnew (List.Sublist.refl _)
      exact q _ _ (z3.push su.any')) hbase hfew hline hst
theorem je_reverse (k : Nat) (ho : JE X B S o S1 (.v (.ref p))) (hk : S1.cs[k]? = some (p, .lst ss)) (hp : ∀ s ∈ ss, s.plain = true)
    (hbase : attributeBase o "reverse" X.env (eval o X.env) = eval o X.env := by rfl) (hline : (apos.endLine == pos.line) = true := by rfl) : JE X B S (.Call (.Attribute o "reverse" apos) [] [] pos) ⟨S1.sl, S1.cs.set k (p, .lst ss.reverse)⟩ (.v .non) :=
  je_bm0 k PySem.F.slot_list_reverse PySem.F.type_list_reverse mt_reverse ho hk (fun T tv σ H Q h q => by
    obtain ⟨G, as, bs, z0⟩ := id h
    obtain ⟨oo, m, hpp, hc, _, hm1, _, reb⟩ := z0.cellW hk (by intro e; cases e)
    cases hc with
    | @lst _ vs0 _ hs =>
      obtain rfl := hs.plain hp
      refine ⟨p, vs0, rfl, rfl, hpp, ?_⟩
      have hlen := hs.len
      have hnew : CeI G (upd H p (.lst vs0.reverse)) (.lst ss.reverse) (.lst vs0.reverse) [] := .lst (SsI.of_get (by rw [List.length_reverse, List.length_reverse, hlen]) fun i s u h1 h2 => by
        have hi : i < ss.length := by
          have := (List.getElem?_eq_some_iff.mp h1).1
          rwa [List.length_reverse] at this
        rw [List.getElem?_reverse hi] at h1
        rw [List.getElem?_reverse (by omega)] at h2
        obtain ⟨u', e1, e2⟩ := hs.get _ h1
        rw [hlen, h2] at e1
        cases e1
        exact e2.any')
      obtain ⟨bs', z3⟩ := reb hnew (List.Sublist.refl _)
      exact q _ _ (z3.push .v)) hbase hline
/-! ### xs[i] = e, xs[i] op= e -/
theorem jg_sub (k : Nat) {i : Int} {j : Nat} {ix : Expr} (ho : JE X B S o S1 (.v (.ref p))) (hi : JE X B S1 ix S2 (.val i)) (hk : S2.cs[k]? = some (p, .lst ss)) (hj : ixp ss.length i = some j) (hp : ∀ s ∈ ss, s.plain = true) (hy : y.plain = true := by rfl)
    (ha : ∀ v, assign (.Subscript o ix pos) X.env v = (do
      let ov ← holding [v] (eval o X.env)
      let iv ← holding [v, ov] (eval ix X.env)
      standAt pos
      holding [v, ov, iv] (setItem ov iv v)
      release [v, ov, iv] []) := by intro _; rfl) : JG X B S (.Subscript o ix pos) y ⟨S2.sl, S2.cs.set k (p, .lst (ss.set j y))⟩ [] := fun T tv σ v H Q h q =>
  pg1 (pg_sub pe0 pe0 set_list ha) (ho _ _ _ _ _ h fun w H1 h1 => by
    have e := h1.exact
    subst e
    refine hi _ _ _ _ _ h1 fun w H2 h2 => ?_
    have e := h2.int
    subst e
    obtain ⟨G, as, bs, z0⟩ := h2.drop.drop
    obtain ⟨a1, a2, rfl, hs1, z1⟩ := z0.pop
    obtain rfl := hs1.nil hy
    obtain ⟨oo, m, hpp, hc, _, hm1, _, reb⟩ := z1.cellW hk (by intro e; cases e)
    cases hc with
    | @lst _ vs0 _ hs =>
      obtain rfl := hs.plain hp
      refine ⟨p, vs0, i, j, rfl, rfl, hpp, by rw [← hs.len]; exact hj, ?_⟩
      have hnew : CeI G (upd H2 p (.lst (vs0.set j v))) (.lst (ss.set j y)) (.lst (vs0.set j v)) [] := .lst (SsI.of_get (by rw [List.length_set, List.length_set, hs.len]) fun n s u h1 h2 => by
        rw [List.getElem?_set] at h1 h2
        have hlen := hs.len
        by_cases e : j = n
        · rw [if_pos e] at h1 h2
          split at h1
          · rw [if_pos (by omega)] at h2
            cases h1
            cases h2
            exact hs1.any'
          · cases h1
        · rw [if_neg e] at h1 h2
          obtain ⟨u', e1, e2⟩ := hs.get _ h1
          rw [h2] at e1
          cases e1
          exact e2.any')
      obtain ⟨bs', z3⟩ := reb hnew (List.Sublist.refl _)
      exact q _ _ (Chg.refl _ _) z3.sta)
/-- any target -/
theorem js_asg {tg : Expr} (he : JE X B S e S1 x) {ws : List Nat} (hg : JG X B S1 tg x S2 ws) (k : JS X B S2 rest D) (hs : swapsWithSole [tg] e pos.line X.env = pure false := by rfl) (hw : swappedStores [tg] e X.env = pure none := by rfl) (h1 : (assignEach [tg] X.env).map (·.2) = [assign tg X.env] := by rfl) : JS X B S (.Assign [tg] e pos :: rest) D :=
  js_step (ps_asg pe0 pg0 hs hw h1) fun T tv σ H h => he _ _ _ _ _ h fun v H1 h1 => hg _ _ _ _ _ _ h1 fun σ' H' _ h2 => k _ _ _ _ h2
end
end J
namespace J
universe u w
open PySem L2
open PySem.W (Datum DatumOrd Holds HoldAll)
section
variable {X : Cx} {pins : List (Addr × Obj)} {σ : St} {H : Hp} {s : Shared}
theorem holds_of {α : Type} [DecidableEq α] [Datum α] {t : α} {v : V} {u : Value} (I : Inv X pins σ H s) (h : Dq H v (Datum.toD t)) (r : RelV v u) : Holds s.heap u t := Dp.reads I _ _ _ (dq_dp h) r
theorem holdAll_of {α : Type} [DecidableEq α] [Datum α] {ts : List α} {vs : List V} {us : List Value} (I : Inv X pins σ H s) (h : DqAll H vs (ts.map Datum.toD)) (r : Vals vs us) : HoldAll s.heap us ts := Dp.readsAll I _ _ _ (dqAll_dp h) r
/-- the reading of a list's items: where it stands, what it holds -/
def LD (K : PySem.W.Frag) (H : Hp) (v : V) {α : Type} [DecidableEq α] [Datum α] (ts : List α) : Prop := ∃ a vs, v = .ref a ∧ SqL K H a vs ∧ DqAll H vs (ts.map Datum.toD)
def rEqT : R2 := fun x y H Q => ∃ (α : Type) (i1 : DecidableEq α) (i2 : Datum α) (t r : α), Dq H x (Datum.toD t) ∧ Dq H y (Datum.toD r) ∧ Datum.depth α ≤ 60 ∧ Q (.bl (decide (t = r))) H
def rNeT : R2 := fun x y H Q => ∃ (α : Type) (i1 : DecidableEq α) (i2 : Datum α) (t r : α), Dq H x (Datum.toD t) ∧ Dq H y (Datum.toD r) ∧ Datum.depth α ≤ 60 ∧ Q (.bl (decide (t ≠ r))) H
def rInT (K : PySem.W.Frag) : R2 := fun x y H Q => ∃ (α : Type) (i1 : DecidableEq α) (i2 : Datum α) (t : α) (ts : List α), Dq H x (Datum.toD t) ∧ LD K H y ts ∧ Datum.depth α ≤ 60 ∧ Q (.bl (decide (t ∈ ts))) H
theorem op_eqT (hu : X.A.units + 64 < cLine) : OpR X (compareOp .Eq) rEqT := by
  intro pins s σ H x y v u Q I rx ry h
  obtain ⟨α, i1, i2, t, r, h1, h2, hd, q⟩ := h
  exact PySem.W.eq_datum (holds_of I h1 rx) (holds_of I h2 ry) (by omega) ⟨.bl _, H, I, rfl, q⟩
theorem op_neT (hu : X.A.units + 64 < cLine) : OpR X (compareOp .NotEq) rNeT := by
  intro pins s σ H x y v u Q I rx ry h
  obtain ⟨α, i1, i2, t, r, h1, h2, hd, q⟩ := h
  exact PySem.W.ne_datum (holds_of I h1 rx) (holds_of I h2 ry) (by omega) ⟨.bl _, H, I, rfl, q⟩
theorem op_inT (hu : X.A.units + 64 < cLine) : OpR X (compareOp .In) (rInT X.K) := by
  intro pins s σ H x y v u Q I rx ry h
  obtain ⟨α, i1, i2, t, ts, h1, ⟨a, vs, rfl, hs, ha⟩, hd, q⟩ := h
  cases ry
  obtain ⟨its, r, pl, hz⟩ := I.list hs
  exact PySem.W.in_list_datum pl.isList (by simpa using holdAll_of I ha r) (holds_of I h1 rx) (by omega) ⟨.bl _, H, I, rfl, q⟩
/-- min(xs), max(xs): an item -/
def rMinT (K : PySem.W.Frag) : List V → Hp → VK → Prop := fun ws H Q => ∃ (α : Type) (i1 : DecidableEq α) (i2 : DatumOrd α) (t : α) (ts : List α) (a : Addr) (vs : List V), ws = [.ref a] ∧ SqL K H a vs ∧ DqAll H vs ((t :: ts).map (@Datum.toD α i1 i2.toDatum)) ∧ @Datum.depth α i1 i2.toDatum ≤ 60 ∧ ∀ (i : Nat) v, vs[i]? = some v → (t :: ts : List α)[i]? = some (PySem.W.minOf t ts) → Q v H
theorem at_same {α : Type} [DecidableEq α] [DatumOrd α] {xs : List α} {vs : List V} {us : List Value} {h' : Heap} (I : Inv X pins σ H s) (ha : DqAll H vs (xs.map Datum.toD)) (r : Vals vs us) {i : Nat} {u : Value} (hi : us[i]? = some u) {m : α} (hm : Holds h' u m) (k : ∀ b o, s.heap.get? b = some o → h'.get? b = some o) : ∃ v, vs[i]? = some v ∧ RelV v u ∧ xs[i]? = some m := by
  have hl := r.length
  have hx := (dqAll_ss (G := H) (H := H) ha).len
  rw [List.length_map] at hx
  have hb := (List.getElem?_eq_some_iff.mp hi).1
  have hv : vs[i]? = some vs[i] := List.getElem?_eq_getElem (by omega)
  obtain ⟨u', e1, e2⟩ := r.get hv
  rw [hi] at e1
  cases e1
  refine ⟨vs[i], hv, e2, ?_⟩
  have hxi : xs[i]? = some xs[i] := List.getElem?_eq_getElem (by omega)
  have hxm : (xs.map Slot.val)[i]? = some (Slot.val xs[i]) := by rw [List.getElem?_map, hxi]; rfl
  obtain ⟨v', f1, f2⟩ := (dqAll_ss (G := H) (H := H) ha).get i hxm
  rw [hv] at f1
  cases f1
  cases f2 with
  | val d =>
    obtain ⟨as, h1⟩ := holds_of I d e2
    obtain ⟨bs, h2⟩ := hm
    have e := PySem.W.alike_unique _ _ _ _ _ (DatumOrd.alike xs[i] m) (PyProof.Rows.Reads.keeps k h1) h2
    have e3 := Datum.eqv xs[i] m
    rw [e, Datum.eqv, decide_eq_true rfl] at e3
    rw [hxi, of_decide_eq_true e3.symm]
theorem cr_minT (hu : X.A.units + 64 < cLine) (hc : X.calm = true) : CallR X (.builtin "min") (rMinT X.K) := by
  intro pins s σ H ws us Q I r h
  obtain ⟨α, i1, i2, t, ts, a, vs, rfl, hs, ha, hd, q⟩ := h
  obtain ⟨its, rv, pl, _⟩ := I.list hs
  rw [Vals.ref1 r]
  exact PySem.W.min_list_datum (I.ok.hd hc) pl.isList (by simpa using holdAll_of I ha rv) (by omega) fun i u h' tk hi hm hk => by
    obtain ⟨v, h1, h2, h3⟩ := at_same I ha rv (by simpa using hi) hm hk
    exact ⟨v, H, I.kept hk, h2, q i v h1 h3⟩
end
/-! ### over the typed states -/
def Dv {α : Type} [DecidableEq α] [Datum α] (B : Base) (S : Stt) (x : Slot) (t : α) : Prop := ∀ {T σ v tv H G as bs}, St0 B S (x :: T) σ (v :: tv) H G as bs → Dq H v (Datum.toD t)
section
variable {B : Base} {S : Stt} {α : Type} [DecidableEq α] [Datum α] {t : α}
theorem dv_fz {x : Slot} (f : FzS x (Datum.toD t)) : Dv B S x t := fun z => by
  obtain ⟨a1, a2, _, h, z'⟩ := z.pop
  exact f.dq h z.sub fun _ _ => rfl
theorem dv_val : Dv B S (.val t) t := dv_fz .val
theorem dv_cell (k : Nat) {p : Addr} {c : Cel} (hk : S.cs[k]? = some (p, c)) (f : FzC c (Datum.toD t)) : Dv B S (.v (.ref p)) t := fun z => by
  obtain ⟨a1, a2, _, h, z'⟩ := z.pop
  cases h with
  | v =>
    obtain ⟨l, o, m, r, _, hp, hc, _⟩ := z.cel.at k hk (by intro e; subst e; cases f)
    exact f.dq hc hp z.sub fun _ _ => rfl
theorem dv_cellL {xs : List α} (k : Nat) {p : Addr} (hk : S.cs[k]? = some (p, .lst (xs.map Slot.val))) : Dv B S (.v (.ref p)) xs := dv_cell k hk (fz_val xs)
theorem dv_ownL {xs : List α} : Dv B S (.own (.lst (xs.map Slot.val))) xs := dv_fz (.own (fz_val xs))
theorem lv_ld {xs : List α} {x : Slot} {K : PySem.W.Frag} (hl : Lv K B S x (xs.map Slot.val)) {T σ v tv H G as bs} (z : St0 B S (x :: T) σ (v :: tv) H G as bs) : LD K H v xs := by
  obtain ⟨a, vs, rfl, hr, hss⟩ := hl z
  exact ⟨a, vs, rfl, hr, dqAll_mono z.sub (ss_dqAll hss)⟩
end
section
variable {X : Cx} {B : Base} {S S1 S2 S3 : Stt} {x y z : Slot} {a b e o : Expr} {es : List Expr} {pos apos : Pos} {D : FE} {rest : List Stmt} {α : Type} [DecidableEq α] [Datum α] {t r : α} {xs : List α} {k : Nat}
theorem o2_eq (h1 : Dv B S x t) (h2 : Dv B S y r) (hd : Datum.depth α ≤ 60) : O2 X B rEqT S x y S (.val (decide (t = r))) := fun T tv σ v u H Q h q => by
  obtain ⟨G, as, bs, z⟩ := h
  obtain ⟨a1, a2, rfl, _, z'⟩ := id z.pop
  exact ⟨α, _, _, t, r, h1 z', h2 z, hd, q _ _ (z'.sta.drop.push fun _ _ => sl_bl _)⟩
theorem o2_ne (h1 : Dv B S x t) (h2 : Dv B S y r) (hd : Datum.depth α ≤ 60) : O2 X B rNeT S x y S (.val (decide (t ≠ r))) := fun T tv σ v u H Q h q => by
  obtain ⟨G, as, bs, z⟩ := h
  obtain ⟨a1, a2, rfl, _, z'⟩ := id z.pop
  exact ⟨α, _, _, t, r, h1 z', h2 z, hd, q _ _ (z'.sta.drop.push fun _ _ => sl_bl _)⟩
theorem jt_eq' (hr : Room k X.A) (ha : JE X B S a S1 x) (hb : JE X B S1 b S2 y) (h1 : Dv B S2 x t) (h2 : Dv B S2 y r) (hd : Datum.depth α ≤ 60 := by decide) : JT X B S (.Compare a [.Eq] [b] pos) S2 (decide (t = r)) := jt_cmp (op_eqT hr.units) ha hb (o2_eq h1 h2 hd) (nomark _)
theorem jt_ne' (hr : Room k X.A) (ha : JE X B S a S1 x) (hb : JE X B S1 b S2 y) (h1 : Dv B S2 x t) (h2 : Dv B S2 y r) (hd : Datum.depth α ≤ 60 := by decide) : JT X B S (.Compare a [.NotEq] [b] pos) S2 (decide (t ≠ r)) := jt_cmp (op_neT hr.units) ha hb (o2_ne h1 h2 hd) (nomark _)
theorem jc_eq (hr : Room k X.A) (ha : JE X B S a S1 x) (hb : JE X B S1 b S2 y) (h1 : Dv B S2 x t) (h2 : Dv B S2 y r) (hd : Datum.depth α ≤ 60 := by decide) : JE X B S (.Compare a [.Eq] [b] pos) S2 (.val (decide (t = r))) := je_cmp (op_eqT hr.units) ha hb (o2_eq h1 h2 hd) (nomark _)
theorem o2_in (h1 : Dv B S x t) (h2 : Lv X.K B S y (xs.map Slot.val)) (hd : Datum.depth α ≤ 60) : O2 X B (rInT X.K) S x y S (.val (decide (t ∈ xs))) := fun T tv σ v u H Q h q => by
  obtain ⟨G, as, bs, z⟩ := h
  obtain ⟨a1, a2, rfl, _, z'⟩ := id z.pop
  exact ⟨α, _, _, t, xs, h1 z', lv_ld h2 z, hd, q _ _ (z'.sta.drop.push fun _ _ => sl_bl _)⟩
theorem jt_in (hr : Room k X.A) (ha : JE X B S a S1 x) (hb : JE X B S1 b S2 y) (h1 : Dv B S2 x t) (h2 : Lv X.K B S2 y (xs.map Slot.val)) (hd : Datum.depth α ≤ 60 := by decide) (hm : behindInMarks .In b = false := by rfl) : JT X B S (.Compare a [.In] [b] pos) S2 (decide (t ∈ xs)) := jt_cmp (op_inT hr.units) ha hb (o2_in h1 h2 hd) hm
/-! min(xs), max(xs) -/
theorem je_minT {β : Type} [DecidableEq β] [DatumOrd β] {t : β} {ts : List β} {p : Pos} (hr : Room k X.A) (hm : X.mg "min" = none) (ha : JE X B S e S1 x) (hl : Lv X.K B S1 x ((t :: ts).map Slot.val)) (hc : X.calm = true := by rfl) (hd : Datum.depth β ≤ 60 := by decide) (hg : Gl X "min" := by rfl) (hst : starEach [e] X.env = (false, eval e X.env) :: starEach [] X.env := by rfl) : JE X B S (.Call (.Name "min" p) [e] [] pos) S1 (.val (PySem.W.minOf t ts)) :=
  je_callB (cr_minT hr.units hc) hm PyProof.Rows.boot_min (ja_cons ha ja_nil hst) (oc1 fun T tv σ v H Q hs q => by
    obtain ⟨G, as, bs, z⟩ := id hs
    obtain ⟨a, vs, rfl, hr, hss⟩ := hl z
    obtain ⟨a1, a2, rfl, _, z'⟩ := id z.pop
    refine ⟨β, _, _, t, ts, a, vs, rfl, hr, dqAll_mono z.sub (ss_dqAll hss), hd, fun i v h1 h2 => ?_⟩
    have hx : ((t :: ts).map Slot.val)[i]? = some (Slot.val (PySem.W.minOf t ts)) := by rw [List.getElem?_map, h2] <;> rfl
    obtain ⟨v', e1, e2⟩ := hss.get i hx
    rw [h1] at e1
    cases e1
    exact q _ _ (z'.push e2)) hg (by decide) (by decide) hst
end
end J
namespace J
universe u w
open PySem L2
open PySem.W (Datum DatumOrd Holds HoldAll T3 T4)
section
variable {X : Cx} {B : Base} {S S1 S2 S3 : Stt} {x y z : Slot} {a b e o : Expr} {es : List Expr} {pos apos : Pos} {D : FE} {rest : List Stmt} {k : Nat} {tg : Expr}
/-! ### what loops walk -/
/-- a list: a value, or one that has a name and is left as it is -/
theorem ji_list {α : Type} [DecidableEq α] [Datum α] {xs : List α} {ok : Stt → Prop} (ha : JE X B S e S1 x) (hl : Lv X.K B S1 x (xs.map Slot.val)) (hok : ∀ S, ok S → Lv X.K B S x (xs.map Slot.val)) : JI X B S tg e S1 [x] (xs.map Slot.val) ok := fun T tv σ H R hs q =>
  pi1 (pi_list pe0) (ha _ _ _ _ _ hs fun v H1 h1 => by
    obtain ⟨G, as, bs, z⟩ := id h1
    obtain ⟨p, vs, rfl, hr, hss⟩ := hl z
    refine ⟨p, rfl, ⟨vs, hr⟩, q (Itl X.K p) [.ref p] H1 rfl h1 ⟨fun S T σ tv H i s hS hi h => ?_, fun S T σ tv H hS h => ?_⟩⟩
    · obtain ⟨G, as, bs, z⟩ := id h
      obtain ⟨p', vs', e, hr', hss'⟩ := hok S hS z
      cases e
      obtain ⟨u, hu, su⟩ := hss'.get i hi
      refine ⟨⟨vs', u, hr', hu⟩, fun v H' hy => ?_⟩
      obtain ⟨rfl, hy⟩ := hy
      have e := hy vs' (hr')
      rw [hu] at e
      cases e
      exact z.push su
    · obtain ⟨G, as, bs, z⟩ := id h
      obtain ⟨p', vs', e, hr', hss'⟩ := hok S hS z
      cases e
      exact ⟨vs', hr', Nat.le_of_eq hss'.len.symm⟩)
theorem ji_val {α : Type} [DecidableEq α] [Datum α] {xs : List α} (ha : JE X B S e S1 (.val xs)) : JI X B S tg e S1 [.val xs] (xs.map Slot.val) (fun _ => True) := ji_list ha lv_val fun _ _ => lv_val
theorem ji_own {α : Type} [DecidableEq α] [Datum α] {xs : List α} (ha : JE X B S e S1 (.own (.lst (xs.map Slot.val)))) : JI X B S tg e S1 [.own (.lst (xs.map Slot.val))] (xs.map Slot.val) (fun _ => True) := ji_list ha lv_own' fun _ _ => lv_own'
theorem ji_pre {ns : List Int} {p : Addr} (ha : JE X B S e S1 (.v (.ref p))) (h : SqL X.K B.G p (ns.map V.int)) : JI X B S tg e S1 [.v (.ref p)] (ns.map Slot.val) (fun _ => True) := ji_list ha (lv_pre h) fun _ _ => lv_pre h
/-- lo, lo + 1, .. -/
def rng (lo : Int) (n : Nat) : List Int := (List.range n).map fun i : Nat => lo + (i : Int)
theorem rng_len (lo : Int) (n : Nat) : (rng lo n).length = n := by unfold rng; rw [List.length_map, List.length_range]
theorem rng_get {lo : Int} {n i : Nat} {m : Int} (h : (rng lo n)[i]? = some m) : i < n ∧ m = lo + i := by
  unfold rng at h
  rw [List.getElem?_map] at h
  cases q : (List.range n)[i]? with
  | none => rw [q] at h; cases h
  | some j =>
    rw [q] at h
    cases h
    obtain ⟨h1, h2⟩ := List.getElem?_eq_some_iff.mp q
    rw [List.getElem_range] at h2
    subst h2
    rw [List.length_range] at h1
    exact ⟨h1, rfl⟩
theorem wk_range {lo : Int} {n : Nat} : Wk X B [] [] ((rng lo n).map Slot.val) (fun _ => True) (Itr lo n) :=
  ⟨fun S T σ tv H i s _ hi h => by
    rw [List.getElem?_map] at hi
    cases q : (rng lo n)[i]? with
    | none => rw [q] at hi; cases hi
    | some m =>
      rw [q] at hi
      cases hi
      obtain ⟨h1, rfl⟩ := rng_get q
      exact ⟨h1, fun v H' ⟨e1, e2⟩ => by
        subst e1 e2
        exact h.push fun _ _ => sl_int _⟩, fun S T σ tv H _ _ => by
    rw [List.length_map, rng_len]
    exact Nat.le_refl _⟩
theorem ji_range1 {p : Pos} {j : Int} (hm : X.mg "range" = none) (ha : JE X B S e S1 (.val j)) (hj : -(4611686018427387904 : Int) ≤ j ∧ j < 4611686018427387904) (hg : Gl X "range" := by rfl) (hst : starEach [e] X.env = (false, eval e X.env) :: starEach [] X.env := by rfl) (hs : starEach [e] X.env = [(false, eval e X.env)] := by rfl) : JI X B S tg (.Call (.Name "range" p) [e] [] pos) S1 [] ((rng 0 j.toNat).map Slot.val) (fun _ => True) := fun T tv σ H R h q =>
  pi1 (pi_range1 hg hm pa0 hs) (ja_cons ha ja_nil hst _ _ _ _ _ h fun vs H1 hl h1 => by
    obtain ⟨v, rfl⟩ : ∃ v, vs = [v] := match vs, hl with | [v], _ => ⟨v, rfl⟩
    have e := h1.int
    subst e
    exact ⟨j, rfl, hj.1, hj.2, q _ [] _ rfl h1.drop wk_range⟩)
/-- enumerate -/
def enu {α : Type} (i : Int) : List α → List (Int × α)
  | [] => []
  | x :: xs => (i, x) :: enu (i + 1) xs
theorem enu_len {α : Type} : ∀ (i : Int) (xs : List α), (enu i xs).length = xs.length
  | _, [] => rfl
  | i, _ :: xs => congrArg Nat.succ (enu_len (i + 1) xs)
theorem enu_get {α : Type} : ∀ (i : Int) (xs : List α) (n : Nat) {p : Int × α}, (enu i xs)[n]? = some p → p.1 = i + n ∧ xs[n]? = some p.2
  | _, [], _, _, h => by simp [enu] at h
  | i, x :: xs, 0, p, h => by
    have e : (i, x) = p := Option.some.inj h
    subst e
    exact ⟨by simp, rfl⟩
  | i, x :: xs, n + 1, p, h => by
    obtain ⟨h1, h2⟩ := enu_get (i + 1) xs n (show (enu (i + 1) xs)[n]? = some p from h)
    exact ⟨by rw [h1]; omega, h2⟩
/-- a new pair -/
theorem push_pair {α β : Type} [DecidableEq α] [Datum α] [DecidableEq β] [Datum β] {T : List Slot} {σ : St} {tv : List V} {H G : Hp} {as bs : List Addr} (z : St0 B S T σ tv H G as bs) {p : Addr} (hp : H p = none) {u v : V} {t : α} {r : β} (h1 : Dq G u (Datum.toD t)) (h2 : Dq G v (Datum.toD r)) : Sta B S (.val (t, r) :: T) σ (.ref p :: tv) (upd H p (.tup [u, v])) :=
  z.newG hp (.val (show Dq _ _ (PyData.tuple [Datum.toD t, Datum.toD r]) from .tup upd_same (.cons (dq_mono (ex_upd (Ex.refl G) (ex_none z.sub hp)) h1) (.cons (dq_mono (ex_upd (Ex.refl G) (ex_none z.sub hp)) h2) .nil))))
theorem sl_dq {α : Type} [DecidableEq α] [Datum α] {G H : Hp} {u : V} {as : List Addr} {t : α} (h : SlI G H (.val t) u as) : Dq G u (Datum.toD t) := by
  cases h with
  | val h => exact h
theorem ji_enum {α : Type} [DecidableEq α] [Datum α] {xs : List α} {ok : Stt → Prop} {p tpos : Pos} {elts : List Expr} {kk : Nat} (hm : X.mg "enumerate" = none) (ha : JE X B S e S1 x) (hl : Lv X.K B S1 x (xs.map Slot.val)) (hok : ∀ S, ok S → Lv X.K B S x (xs.map Slot.val)) (hg : Gl X "enumerate" := by rfl) (hst : starEach [e] X.env = (false, eval e X.env) :: starEach [] X.env := by rfl) (hs : starEach [e] X.env = [(false, eval e X.env)] := by rfl) :
    JI X B S (.Tuple elts kk tpos) (.Call (.Name "enumerate" p) [e] [] pos) S1 [x] ((enu 0 xs).map Slot.val) ok := fun T tv σ H R h q =>
  pi1 (pi_enum hg hm pa0 hs) (ja_cons ha ja_nil hst _ _ _ _ _ h fun vs H1 hl' h1 => by
    obtain ⟨v, rfl⟩ : ∃ v, vs = [v] := match vs, hl' with | [v], _ => ⟨v, rfl⟩
    obtain ⟨G, as, bs, z⟩ := id h1
    obtain ⟨p, vs, rfl, hr, hss⟩ := hl z
    refine ⟨p, vs, rfl, hr, q (Ite X.K p) [.ref p] H1 rfl h1 ⟨fun S T σ tv H i s hS hi h => ?_, fun S T σ tv H hS h => ?_⟩⟩
    · obtain ⟨G, as, bs, z⟩ := id h
      obtain ⟨p', vs', e, hr', hss'⟩ := hok S hS z
      cases e
      rw [List.getElem?_map] at hi
      cases qe : (enu 0 xs)[i]? with
      | none => rw [qe] at hi; cases hi
      | some pr =>
        rw [qe] at hi
        cases hi
        obtain ⟨h1, h2⟩ := enu_get 0 xs i qe
        obtain ⟨u, hu, su⟩ := hss'.get i (show (xs.map Slot.val)[i]? = some (Slot.val pr.2) by rw [List.getElem?_map, h2] <;> rfl)
        refine ⟨⟨vs', u, hr', hu⟩, fun v H' hy => ?_⟩
        obtain ⟨T', x', rfl, hT, rfl, hy⟩ := hy
        have e := hy vs' (hr')
        rw [hu] at e
        cases e
        have ei : pr = (((i : Nat) : Int), pr.2) := Prod.ext (by rw [h1]; simp) rfl
        rw [ei]
        exact push_pair z hT (.int _) (sl_dq su)
    · obtain ⟨G, as, bs, z⟩ := id h
      obtain ⟨p', vs', e, hr', hss'⟩ := hok S hS z
      cases e
      refine ⟨vs', hr', Nat.le_of_eq ?_⟩
      have := hss'.len
      rw [List.length_map] at this ⊢
      rw [enu_len]
      exact this.symm)
/-! ### targets that are tuples -/
structure tgsOf (X : Cx) (ts : List Expr) (vs : List V) (σ : St) (H : Hp) (Q : St → Hp → Prop) : Prop where
  run : ∀ pins s us, Inv X pins σ H s → Vals vs us → wpAny (model X.prog X.w) X.A (assignInOrder ((assignEach ts X.env).map (·.2)) us) (fun _ s' => ∃ σ' H', Inv X pins σ' H' s' ∧ Q σ' H') X.xe s
theorem pgs0 {ts : List Expr} : PGs X ts (tgsOf X ts) := ⟨fun pins s _ _ _ us _ I r h => h.run pins s us I r⟩
theorem pgs1 {ts : List Expr} {t : TGs} (h : PGs X ts t) {vs : List V} {σ : St} {H : Hp} {Q : St → Hp → Prop} (q : t vs σ H Q) : tgsOf X ts vs σ H Q := ⟨fun pins s us I r => h.run pins s σ H vs us Q I r q⟩
def JGs (X : Cx) (B : Base) (S : Stt) (ts : List Expr) (xs : List Slot) (S' : Stt) (ws : List Nat) : Prop := ∀ T tv σ vs H Q, vs.length = xs.length → Sta B S (xs ++ T) σ (vs ++ tv) H → (∀ σ' H', Chg ws σ σ' → Sta B S' T σ' tv H' → Q σ' H') → tgsOf X ts vs σ H Q
theorem jgs_nil : JGs X B S [] [] S [] := fun T tv σ vs H Q hl h q => match vs, hl with
  | [], _ => pgs1 pgs_nil ⟨rfl, q _ _ (Chg.refl _ _) h⟩
theorem jgs_cons {ts : List Expr} {xs : List Slot} {ws ws' : List Nat} (h1 : JG X B S tg x S1 ws) (h2 : JGs X B S1 ts xs S2 ws') (hs : (assignEach (tg :: ts) X.env).map (·.2) = assign tg X.env :: (assignEach ts X.env).map (·.2) := by rfl) : JGs X B S (tg :: ts) (x :: xs) S2 (ws ++ ws') := fun T tv σ vs H Q hl h q => match vs, hl with
  | v :: vs, hl => pgs1 (pgs_cons pg0 pgs0 hs) ⟨v, vs, rfl, h1 _ _ _ _ _ _ h fun σ' H' c g => h2 _ _ _ _ _ _ (Nat.succ.inj hl) g fun σ2 H2 c2 g2 => q σ2 H2 (c.app c2) g2⟩
/-- a tuple's items -/
theorem jg_tup {es : List Expr} {kk : Nat} {α : Type} [DecidableEq α] [Datum α] {t : α} {ds : List PyData} {xs : List Slot} (ht : Datum.toD t = .tuple ds) (hx : ∀ {G H : Hp} {vs : List V}, DqAll G vs ds → SsI G H xs vs []) {ws : List Nat} (h : JGs X B S es xs S1 ws) (hc : X.calm = true := by rfl) (hn : (assignEach es X.env).length = xs.length := by rfl) (hst : (assignEach es X.env).findIdx? (·.1) = none := by rfl) : JG X B S (.Tuple es kk pos) (.val t) S1 ws := fun T tv σ v H Q hs q =>
  pg1 (pg_tup hc pgs0 rfl hst) (by
    obtain ⟨G, as, bs, z⟩ := hs
    obtain ⟨a1, a2, rfl, g, z'⟩ := z.pop
    cases g with
    | val g =>
      rw [ht] at g
      cases g with
      | @tup p vs _ hp ha =>
        have hss : SsI G H xs vs [] := hx ha
        refine ⟨p, vs, rfl, .of (z.sub _ _ hp), by rw [hn, hss.len], ?_⟩
        exact h _ _ _ _ _ _ hss.len.symm ⟨G, [] ++ a2, bs, hss.app z'.tmp, z'.cel, z'.slo, z'.nod, z'.fre, z'.gro, z'.new, z'.sub, z'.frm⟩ q)
theorem jg_pair {e1 e2 : Expr} {kk : Nat} {α β : Type} [DecidableEq α] [Datum α] [DecidableEq β] [Datum β] {t : α × β} {ws : List Nat} (h : JGs X B S [e1, e2] [.val t.1, .val t.2] S1 ws) (hc : X.calm = true := by rfl) (hn : (assignEach [e1, e2] X.env).length = 2 := by rfl) (hst : (assignEach [e1, e2] X.env).findIdx? (·.1) = none := by rfl) : JG X B S (.Tuple [e1, e2] kk pos) (.val t) S1 ws :=
  jg_tup (ds := [Datum.toD t.1, Datum.toD t.2]) rfl (fun h => by
    cases h with
    | cons h1 h2 =>
      cases h2 with
      | cons h2 h3 =>
        cases h3
        exact .cons (as := []) (.val h1) (.cons (as := []) (.val h2) .nil)) h hc hn hst
/-! ### comprehensions -/
/-- within the block: the same context but the frame -/
abbrev Blk (X : Cx) (scope : Scope) (P : Cx → Prop) : Prop := ∀ (s : Shared) (H : Hp) (C : Addr) (cl : List (Str × Addr)) (fp : List Addr), P (X.blk s H scope (compEnvC scope cl C X.env) fp)
/-- tests -/
def ttsOf (X : Cx) (ifs : List Expr) : TT := fun σ H Q => ∃ t, PTs X ifs t ∧ t σ H Q
def JTs (X : Cx) (B : Base) (S : Stt) (ifs : List Expr) (S' : Stt) (p : Bool) : Prop := ∀ T tv σ H (Q : Bool → Hp → Prop), Sta B S T σ tv H → (∀ H', Sta B S' T σ tv H' → Q p H') → ∃ t, PTs X ifs t ∧ t σ H Q
theorem jts_nil : JTs X B S [] S true := fun T tv σ H Q hs q => ⟨_, pts_nil, q H hs⟩
theorem jts_one {c : Expr} {p : Bool} (h : JT X B S c S1 p) : JTs X B S [c] S1 p := fun T tv σ H Q hs q => ⟨_, pts_one pt0, h _ _ _ _ _ hs q⟩
def AnyAt (sl : List Slot) (vs : List Nat) : Prop := ∀ i ∈ vs, ∀ s, sl[i]? = some s → s = .any
theorem SgI.wip {G : Hp} {sl : List Slot} {σ : St} {vs : List Nat} (h : AnyAt sl vs) (g : SgI G sl σ) : SgI G sl (wipe σ vs) := by
  refine ⟨by rw [wipe_length]; exact g.1, fun i s hs => ?_⟩
  by_cases hi : i ∈ vs
  · have e := h i hi s hs
    subst e
    have hlt := (List.getElem?_eq_some_iff.mp hs).1
    exact ⟨(wipe σ vs)[i]'(by rw [wipe_length, ← g.1]; exact hlt), List.getElem?_eq_getElem _, trivial⟩
  · rw [wipe_get, if_neg hi]
    exact g.2 i s hs
theorem SgI.unwip {G : Hp} {sl : List Slot} {σ : St} {vs : List Nat} (h : AnyAt sl vs) (g : SgI G sl (wipe σ vs)) : SgI G sl σ := by
  refine ⟨by rw [← wipe_length σ vs]; exact g.1, fun i s hs => ?_⟩
  by_cases hi : i ∈ vs
  · have e := h i hi s hs
    subst e
    have hlt := (List.getElem?_eq_some_iff.mp hs).1
    exact ⟨σ[i]'(by rw [← wipe_length σ vs, ← g.1]; exact hlt), List.getElem?_eq_getElem _, trivial⟩
  · have := g.2 i s hs
    rw [wipe_get, if_neg hi] at this
    exact this
theorem Sta.wip {T : List Slot} {σ : St} {tv : List V} {H : Hp} {vs : List Nat} (h : AnyAt S.sl vs) (g : Sta B S T σ tv H) : Sta B S T (wipe σ vs) tv H := by
  obtain ⟨G, as, bs, z1, z2, z3, z⟩ := g
  exact ⟨G, as, bs, z1, z2, z3.wip h, by assumption, by assumption, by assumption, by assumption, by assumption, by assumption⟩
theorem Sta.unwip {T : List Slot} {σ : St} {tv : List V} {H : Hp} {vs : List Nat} (h : AnyAt S.sl vs) (g : Sta B S T (wipe σ vs) tv H) : Sta B S T σ tv H := by
  obtain ⟨G, as, bs, z1, z2, z3, z4, z5, z6, z7, z8, z9⟩ := g
  exact ⟨G, as, bs, z1, z2, z3.unwip h, z4, z5, z6, z7, z8, z9⟩
def cmpM {ι α β : Type} (f : ι → α → Option (Option β × ι)) : List α → ι → Option (List β × ι)
  | [], s => some ([], s)
  | x :: xs, s => (f s x).bind fun p => (cmpM f xs p.2).bind fun q => some (match p.1 with
    | some y => (y :: q.1, q.2)
    | none => q)
/-- one more item at the end of a list that is laid on top -/
theorem Sta.appT {T : List Slot} {σ : St} {tv : List V} {H : Hp} {acc : List Slot} {v : V} {D : Addr} (h : Sta B S (y :: .own (.lst acc) :: T) σ (v :: .ref D :: tv) H) : ∃ va, H D = some (.lst va) ∧ va.length = acc.length ∧ Sta B S (.own (.lst (acc ++ [y])) :: T) σ (.ref D :: tv) (upd H D (.lst (va ++ [v]))) := by
  obtain ⟨G, as, bs, z⟩ := h
  obtain ⟨a1, a2, rfl, g1, z1⟩ := z.pop
  obtain ⟨a3, a4, rfl, g2, z2⟩ := z1.pop
  cases g2 with
  | @own _ _ o m hD hc =>
    cases hc with
    | @lst _ va _ hs =>
      refine ⟨va, hD, hs.len.symm, ?_⟩
      have nd := z.nod
      have pm : ((D :: (m ++ a1)) ++ a4 ++ bs).Perm (a1 ++ ((D :: m) ++ a4) ++ bs) := by
        refine List.Perm.append_right _ ?_
        have e1 : ((D :: (m ++ a1)) ++ a4).Perm ((a1 ++ (D :: m)) ++ a4) := List.Perm.append_right _ (by
          have : ((D :: m) ++ a1).Perm (a1 ++ (D :: m)) := List.perm_append_comm
          exact this)
        rw [List.append_assoc a1] at e1
        exact e1
      have nd2 := pm.nodup_iff.mpr nd
      have nD : ∀ a ∈ m ++ a1 ++ a4 ++ bs, a ≠ D := fun a ha e => by
        subst e
        have : ((a :: (m ++ a1)) ++ a4 ++ bs) = a :: (m ++ a1 ++ a4 ++ bs) := by simp
        rw [this] at nd2
        exact (List.nodup_cons.mp nd2).1 ha
      have fr := fun a ha => z.fre a (pm.mem_iff.mp ha)
      have hG : G D = none := (fr D (by simp)).1
      have hF : B.F D = none := (fr D (by simp)).2
      have k1 : SsI G (upd H D (.lst (va ++ [v]))) acc va m := hs.mono (Ex.refl G) fun a ha => upd_ne (nD a (by simp [ha]))
      have k2 : SlI G (upd H D (.lst (va ++ [v]))) y v a1 := g1.mono (Ex.refl G) fun a ha => upd_ne (nD a (by simp [ha]))
      exact ⟨G, (D :: (m ++ a1)) ++ a4, bs, .cons (.own upd_same (.lst (k1.app (SsI.one k2)))) (z2.tmp.mono (Ex.refl G) fun a ha => upd_ne (nD a (by simp [ha]))), z2.cel.mono (Ex.refl G) fun a ha => upd_ne (nD a (by simp [ha])), z.slo, nd2, fr, z.gro, z.new,
        fun a u ha => by rw [upd_ne (by intro e; subst e; rw [hG] at ha; cases ha)]; exact z.sub a u ha, fun a u ha => by rw [upd_ne (by intro e; subst e; rw [hF] at ha; cases ha)]; exact z.frm a u ha⟩
abbrev Le (B : Base) (S S' : Stt) : Prop := ∀ T tv σ H, Sta B S T σ tv H → Sta B S' T σ tv H
theorem lc_t {ι α β : Type} [DecidableEq α] [Datum α] {xs : List α} {f : ι → α → Option (Option β × ι)} {el : β → Slot} {Sf : ι → Stt} {Sb : ι → α → Stt} {s0 sE : ι} {ys : List β} {iter elt : Expr} {ifs : List Expr} {scope : Scope} {own : List (Str × Nat)} {zs : List Slot} {ok : Stt → Prop} {ws : List Nat}
    (hf : cmpM f xs s0 = some (ys, sE)) (hlen : xs.length ≤ 16777216) (hN : X.N.Nodup) (hbk : BlkOk X.N X.env.scope scope own)
    (hi : JI X B S tg iter S1 zs (xs.map Slot.val) ok) (h0 : Le B S1 (Sf s0)) (hok : ∀ s, ok (Sf s)) (hv : ∀ s, AnyAt (Sf s).sl (own.map (·.2))) (hws : ∀ i ∈ ws, i ∈ own.map (·.2))
    (hg : ∀ s x, Blk X scope fun Y => JG Y B (Sf s) tg (.val x) (Sb s x) ws)
    (hb : ∀ s x o s', x ∈ xs → f s x = some (o, s') → ∃ (p : Bool) (St : Stt), (Blk X scope fun Y => JTs Y B (Sb s x) ifs St p) ∧ (p = true → ∃ y Se, o = some y ∧ (Blk X scope fun Y => JE Y B St elt Se (el y)) ∧ Le B Se (Sf s')) ∧ (p = false → o = none ∧ Le B St (Sf s')))
    {T : List Slot} {σ : St} {tv : List V} {H : Hp} {Q : VK} (h : Sta B S T σ tv H) (q : ∀ v H', Sta B (Sf sE) (.own (.lst (ys.map el)) :: T) σ (v :: tv) H' → Q v H') : tLc (tiOf X tg iter) (fun v σ H Q => Blk X scope fun Y => tgOf Y tg v σ H Q) (fun σ H Q => Blk X scope fun Y => ttsOf Y ifs σ H Q) (fun σ H Q => Blk X scope fun Y => teOf Y elt σ H Q) (own.map (·.2)) σ H Q :=
  hi _ _ _ _ _ h fun J zv H1 hl h1 wk => fun Dd hD => by
      have hS0 := h0 _ _ _ _ h1
      obtain ⟨G0, as0, bs0, z0⟩ := id hS0
      have start : Sta B (Sf s0) (.own (.lst ([].map el)) :: (zs ++ T)) σ (.ref Dd :: (zv ++ tv)) (upd H1 Dd (.lst [])) := z0.newO hD (.lst .nil)
      refine ⟨fun i m H => m = xs.length - i ∧ i ≤ xs.length ∧ ∃ s acc more, cmpM f (xs.drop i) s = some (more, sE) ∧ ys = acc ++ more ∧ acc.length ≤ i ∧ Sta B (Sf s) (.own (.lst (acc.map el)) :: (zs ++ T)) σ (.ref Dd :: (zv ++ tv)) H, ⟨xs.length, by simp, Nat.zero_le _, s0, [], ys, hf, rfl, Nat.zero_le _, start⟩, ?_⟩
      rintro i m H ⟨rfl, hle, s, acc, more, hm, hys, hacc, hS⟩
      have rotz : ∀ {S : Stt} {s : Slot} {u : V} {σ : St} {H : Hp}, Sta B S (s :: (zs ++ T)) σ (u :: (zv ++ tv)) H → Sta B S (zs ++ s :: T) σ (zv ++ u :: tv) H := fun {S s u σ H} h => by
        obtain ⟨G, as, bs, z⟩ := h
        obtain ⟨a1, a2, rfl, g1, z1⟩ := z.pop
        obtain ⟨a3, a4, rfl, g2, z2⟩ := z1.split hl.symm
        have pm : (a3 ++ (a1 ++ a4) ++ bs).Perm (a1 ++ (a3 ++ a4) ++ bs) := List.Perm.append_right _ (by
          rw [← List.append_assoc, ← List.append_assoc]
          exact List.Perm.append_right _ List.perm_append_comm)
        exact ⟨G, a3 ++ (a1 ++ a4), bs, g2.app (.cons g1 z2.tmp), z.cel, z.slo, pm.nodup_iff.mpr z.nod, fun a ha => z.fre a (pm.mem_iff.mp ha), z.gro, z.new, z.sub, z.frm⟩
      by_cases hlt : i < xs.length
      · rw [List.drop_eq_getElem_cons hlt] at hm
        refine bnd hm fun pr e1 e2 => bnd e2 fun qr e3 e4 => .inr ?_
        obtain ⟨o, s'⟩ := pr
        obtain ⟨more', sE'⟩ := qr
        have hx : (xs.map Slot.val)[i]? = some (Slot.val xs[i]) := by rw [List.getElem?_map, List.getElem?_eq_getElem hlt] <;> rfl
        obtain ⟨w1, w2⟩ := wk.go _ _ _ _ _ i _ (hok s) hx (rotz (hS.wip (hv s)))
        obtain ⟨w1', _⟩ := wk.go _ _ _ _ _ i _ (hok s) hx (rotz hS)
        obtain ⟨p, St, hT, hp1, hp0⟩ := hb s xs[i] o s' (List.getElem_mem hlt) e1
        refine ⟨w1', fun H => i < xs.length ∧ ∃ s acc more, cmpM f (xs.drop (i + 1)) s = some (more, sE) ∧ ys = acc ++ more ∧ acc.length ≤ i + 1 ∧ Sta B (Sf s) (.own (.lst (acc.map el)) :: (zs ++ T)) σ (.ref Dd :: (zv ++ tv)) H, fun H' ⟨_, g⟩ => ⟨xs.length - (i + 1), by omega, rfl, hlt, g⟩, fun v H' hy => ?_⟩
        have hS2 := w2 v H' hy
        -- the item on top, then the list that grows
        have hS3 : Sta B (Sf s) (.val xs[i] :: .own (.lst (acc.map el)) :: (zs ++ T)) (wipe σ (own.map (·.2))) (v :: .ref Dd :: (zv ++ tv)) H' := by
          obtain ⟨G, as, bs, z⟩ := hS2
          obtain ⟨a1, a2, rfl, g1, z1⟩ := z.pop
          obtain ⟨a3, a4, rfl, g2, z2⟩ := z1.split hl.symm
          obtain ⟨a5, a6, rfl, g3, z3⟩ := z2.pop
          have pm : (a1 ++ (a5 ++ (a3 ++ a6)) ++ bs).Perm (a1 ++ (a3 ++ (a5 ++ a6)) ++ bs) := List.Perm.append_right _ (List.Perm.append_left _ (by
            rw [← List.append_assoc, ← List.append_assoc]
            exact List.Perm.append_right _ List.perm_append_comm))
          exact ⟨G, a1 ++ (a5 ++ (a3 ++ a6)), bs, .cons g1 (.cons g3 (g2.app z3.tmp)), z.cel, z.slo, pm.nodup_iff.mpr z.nod, fun a ha => z.fre a (pm.mem_iff.mp ha), z.gro, z.new, z.sub, z.frm⟩
        intro s1 H01 C1 cl1 fp1
        refine hg s xs[i] s1 H01 C1 cl1 fp1 _ _ _ _ _ _ hS3 fun σ2 H2 chg h2 => ⟨?_, ?_⟩
        · rw [chg _ hws, wipe_wipe]
        · have back : ∀ {S : Stt} {T : List Slot} {tv : List V} {H : Hp} {s : ι}, Sta B S T σ2 tv H → Le B S (Sf s) → Sta B (Sf s) T σ tv H := fun {S T tv H s} h hle => by
            have h3 := (hle _ _ _ _ h).wip (hv s)
            rw [chg _ hws, wipe_wipe] at h3
            exact h3.unwip (hv s)
          intro s2 H02 C2 cl2 fp2
          refine hT s2 H02 C2 cl2 fp2 _ _ _ _ _ h2 fun H3 h3 => ?_
          cases p with
          | true =>
            rw [if_pos rfl]
            obtain ⟨y, Se, rfl, he, hle'⟩ := hp1 rfl
            intro s3 H03 C3 cl3 fp3
            refine he s3 H03 C3 cl3 fp3 _ _ _ _ _ h3 fun w H4 h4 => ?_
            obtain ⟨va, hDv, hvl, h5⟩ := Sta.appT h4
            refine ⟨va, hDv, ?_, hlt, s', acc ++ [y], more', ?_, ?_, ?_, ?_⟩
            · rw [hvl, List.length_map]
              exact Nat.lt_of_lt_of_le (Nat.lt_of_le_of_lt hacc hlt) hlen
            · have e5 : (y :: more', sE') = (more, sE) := Option.some.inj e4
              cases e5
              exact e3
            · have e5 : (y :: more', sE') = (more, sE) := Option.some.inj e4
              cases e5
              rw [hys, List.append_assoc]
              rfl
            · rw [List.length_append]
              exact Nat.succ_le_succ hacc
            · rw [List.map_append]
              exact back h5 hle'
          | false =>
            rw [if_neg (by decide)]
            obtain ⟨rfl, hle'⟩ := hp0 rfl
            have e5 : (more', sE') = (more, sE) := Option.some.inj e4
            cases e5
            exact ⟨hlt, s', acc, _, e3, hys, Nat.le_succ_of_le hacc, back h3 hle'⟩
      · have e : i = xs.length := by omega
        subst e
        rw [List.drop_length] at hm
        have e5 : (([] : List β), s) = (more, sE) := Option.some.inj hm
        cases e5
        have st := wk.stop _ _ _ _ _ (hok _) (rotz hS)
        rw [List.length_map] at st
        rw [List.append_nil] at hys
        subst hys
        refine .inl ⟨st, q _ _ ?_⟩
        obtain ⟨G, as, bs, z⟩ := hS
        obtain ⟨a1, a2, rfl, g1, z1⟩ := z.pop
        obtain ⟨a3, a4, rfl, g2, z2⟩ := z1.split hl.symm
        have sub : (a1 ++ a4 ++ bs).Sublist (a1 ++ (a3 ++ a4) ++ bs) := ((List.Sublist.refl a1).append (List.sublist_append_right a3 a4)).append (List.Sublist.refl bs)
        exact ⟨G, a1 ++ a4, bs, .cons g1 z2.tmp, z.cel, z.slo, sub.nodup z.nod, fun a ha => z.fre a (sub.mem ha), z.gro, z.new, z.sub, z.frm⟩
theorem je_lc {ι α β : Type} [DecidableEq α] [Datum α] {xs : List α} {f : ι → α → Option (Option β × ι)} {el : β → Slot} {Sf : ι → Stt} {Sb : ι → α → Stt} {s0 sE : ι} {ys : List β} {iter elt : Expr} {ifs : List Expr} {scope : Scope} {own : List (Str × Nat)} {zs : List Slot} {ok : Stt → Prop} {ws : List Nat}
    (hf : cmpM f xs s0 = some (ys, sE)) (hlen : xs.length ≤ 16777216) (hN : X.N.Nodup) (hbk : BlkOk X.N X.env.scope scope own)
    (hi : JI X B S tg iter S1 zs (xs.map Slot.val) ok) (h0 : Le B S1 (Sf s0)) (hok : ∀ s, ok (Sf s)) (hv : ∀ s, AnyAt (Sf s).sl (own.map (·.2))) (hws : ∀ i ∈ ws, i ∈ own.map (·.2))
    (hg : ∀ s x, Blk X scope fun Y => JG Y B (Sf s) tg (.val x) (Sb s x) ws)
    (hb : ∀ s x o s', x ∈ xs → f s x = some (o, s') → ∃ (p : Bool) (St : Stt), (Blk X scope fun Y => JTs Y B (Sb s x) ifs St p) ∧ (p = true → ∃ y Se, o = some y ∧ (Blk X scope fun Y => JE Y B St elt Se (el y)) ∧ Le B Se (Sf s')) ∧ (p = false → o = none ∧ Le B St (Sf s')))
    (hc : X.calm = true := by rfl) (hs : ∀ x, foldedSetIterable iter X.env x = pure x := by intro _; rfl) : JE X B S (.ListComp elt [⟨tg, iter, ifs, 0⟩] scope pos) (Sf sE) (.own (.lst (ys.map el))) := fun T tv σ H Q h q =>
  pe1 (pe_lc (g := (fun v σ H Q => Blk X scope fun Y => tgOf Y tg v σ H Q)) (tt := (fun σ H Q => Blk X scope fun Y => ttsOf Y ifs σ H Q)) (te := (fun σ H Q => Blk X scope fun Y => teOf Y elt σ H Q)) hc hN pi0 hbk (fun s H C cl fp => ⟨fun pins s' σ H' v u Q I r h => (h s H C cl fp).run pins s' u I r⟩) (fun s H C cl fp => ⟨fun pins s' σ H' Q I h => let ⟨_, hp, h'⟩ := h s H C cl fp; hp.run pins s' σ H' Q I h'⟩) (fun s H C cl fp => ⟨fun pins s' σ H' Q I h => (h s H C cl fp).run pins s' I⟩) hs) (lc_t hf hlen hN hbk hi h0 hok hv hws hg hb h q)
theorem js_newLc (j : Nat) {n : Str} {pos2 : Pos} {ι α β : Type} [DecidableEq α] [Datum α] {xs : List α} {f : ι → α → Option (Option β × ι)} {el : β → Slot} {Sf : ι → Stt} {Sb : ι → α → Stt} {s0 sE : ι} {ys : List β} {iter elt : Expr} {ifs : List Expr} {scope : Scope} {own : List (Str × Nat)} {zs : List Slot} {ok : Stt → Prop} {ws : List Nat}
    (hf : cmpM f xs s0 = some (ys, sE)) (hlen : xs.length ≤ 16777216) (hN : X.N.Nodup) (hbk : BlkOk X.N X.env.scope scope own)
    (hi : JI X B S tg iter S1 zs (xs.map Slot.val) ok) (h0 : Le B S1 (Sf s0)) (hok : ∀ s, ok (Sf s)) (hv : ∀ s, AnyAt (Sf s).sl (own.map (·.2))) (hws : ∀ i ∈ ws, i ∈ own.map (·.2))
    (hg : ∀ s x, Blk X scope fun Y => JG Y B (Sf s) tg (.val x) (Sb s x) ws)
    (hb : ∀ s x o s', x ∈ xs → f s x = some (o, s') → ∃ (p : Bool) (St : Stt), (Blk X scope fun Y => JTs Y B (Sb s x) ifs St p) ∧ (p = true → ∃ y Se, o = some y ∧ (Blk X scope fun Y => JE Y B St elt Se (el y)) ∧ Le B Se (Sf s')) ∧ (p = false → o = none ∧ Le B St (Sf s')))
    (k : ∀ p, JS X B ⟨(Sf sE).sl.set j (.v (.ref p)), (Sf sE).cs ++ [(p, .lst (ys.map el))]⟩ rest D) (hc : X.calm = true := by rfl) (hs : ∀ x, foldedSetIterable iter X.env x = pure x := by intro _; rfl) (hj : X.N[j]? = some n := by rfl) (hyl : X.env.scope.names.lookup n = some .local := by rfl) (hsw : swapsWith (.ListComp elt [⟨tg, iter, ifs, 0⟩] scope pos) (some (.Name n pos2)) apos.line X.env = pure true := by rfl) : JS X B S (.Assign [.Name n pos2] (.ListComp elt [⟨tg, iter, ifs, 0⟩] scope pos) apos :: rest) D :=
  js_step (ps_setLc (g := (fun v σ H Q => Blk X scope fun Y => tgOf Y tg v σ H Q)) (tt := (fun σ H Q => Blk X scope fun Y => ttsOf Y ifs σ H Q)) (te := (fun σ H Q => Blk X scope fun Y => teOf Y elt σ H Q)) hc hN hj hyl hsw pi0 hbk (fun s H C cl fp => ⟨fun pins s' σ H' v u Q I r h => (h s H C cl fp).run pins s' u I r⟩) (fun s H C cl fp => ⟨fun pins s' σ H' Q I h => let ⟨_, hp, h'⟩ := h s H C cl fp; hp.run pins s' σ H' Q I h'⟩) (fun s H C cl fp => ⟨fun pins s' σ H' Q I h => (h s H C cl fp).run pins s' I⟩) hs) fun T tv σ H h => lc_t hf hlen hN hbk hi h0 hok hv hws hg hb h fun v H1 h1 => by
    obtain ⟨p, rfl, h2⟩ := h1.name
    exact k p _ _ _ _ (h2.set rfl j)
theorem js_setLc (j : Nat) {n : Str} {pos2 : Pos} {z : Slot} {ι α β : Type} [DecidableEq α] [Datum α] {xs : List α} {f : ι → α → Option (Option β × ι)} {el : β → Slot} {Sf : ι → Stt} {Sb : ι → α → Stt} {s0 sE : ι} {ys : List β} {iter elt : Expr} {ifs : List Expr} {scope : Scope} {own : List (Str × Nat)} {zs : List Slot} {ok : Stt → Prop} {ws : List Nat}
    (hf : cmpM f xs s0 = some (ys, sE)) (hlen : xs.length ≤ 16777216) (hN : X.N.Nodup) (hbk : BlkOk X.N X.env.scope scope own)
    (hi : JI X B S tg iter S1 zs (xs.map Slot.val) ok) (h0 : Le B S1 (Sf s0)) (hok : ∀ s, ok (Sf s)) (hv : ∀ s, AnyAt (Sf s).sl (own.map (·.2))) (hws : ∀ i ∈ ws, i ∈ own.map (·.2))
    (hg : ∀ s x, Blk X scope fun Y => JG Y B (Sf s) tg (.val x) (Sb s x) ws)
    (hb : ∀ s x o s', x ∈ xs → f s x = some (o, s') → ∃ (p : Bool) (St : Stt), (Blk X scope fun Y => JTs Y B (Sb s x) ifs St p) ∧ (p = true → ∃ y Se, o = some y ∧ (Blk X scope fun Y => JE Y B St elt Se (el y)) ∧ Le B Se (Sf s')) ∧ (p = false → o = none ∧ Le B St (Sf s')))
    (hz : ∀ {T : List Slot} {σ : St} {tv : List V} {v : V} {H : Hp}, Sta B (Sf sE) (.own (.lst (ys.map el)) :: T) σ (v :: tv) H → Sta B (Sf sE) (z :: T) σ (v :: tv) H) (k : JS X B ⟨(Sf sE).sl.set j z, (Sf sE).cs⟩ rest D) (hp : z.plain = true := by rfl) (hc : X.calm = true := by rfl) (hs : ∀ x, foldedSetIterable iter X.env x = pure x := by intro _; rfl) (hj : X.N[j]? = some n := by rfl) (hyl : X.env.scope.names.lookup n = some .local := by rfl) (hsw : swapsWith (.ListComp elt [⟨tg, iter, ifs, 0⟩] scope pos) (some (.Name n pos2)) apos.line X.env = pure true := by rfl) : JS X B S (.Assign [.Name n pos2] (.ListComp elt [⟨tg, iter, ifs, 0⟩] scope pos) apos :: rest) D :=
  js_step (ps_setLc (g := (fun v σ H Q => Blk X scope fun Y => tgOf Y tg v σ H Q)) (tt := (fun σ H Q => Blk X scope fun Y => ttsOf Y ifs σ H Q)) (te := (fun σ H Q => Blk X scope fun Y => teOf Y elt σ H Q)) hc hN hj hyl hsw pi0 hbk (fun s H C cl fp => ⟨fun pins s' σ H' v u Q I r h => (h s H C cl fp).run pins s' u I r⟩) (fun s H C cl fp => ⟨fun pins s' σ H' Q I h => let ⟨_, hp, h'⟩ := h s H C cl fp; hp.run pins s' σ H' Q I h'⟩) (fun s H C cl fp => ⟨fun pins s' σ H' Q I h => (h s H C cl fp).run pins s' I⟩) hs) fun T tv σ H h => lc_t hf hlen hN hbk hi h0 hok hv hws hg hb h fun v H1 h1 => k _ _ _ _ ((hz h1).set hp j)
end
end J
namespace J
universe u w
open PySem L2
open PySem.W (Datum DatumOrd Holds HoldAll T3 T4)
/-! ### cells handed over, and back -/
inductive Pk : List (Addr × Cel) → List (Addr × Cel) → List (Addr × Cel) → Prop where
  | nil {cs : List (Addr × Cel)} : Pk cs [] cs
  | cons (i : Nat) {cs ds cs' : List (Addr × Cel)} {p : Addr} {c : Cel} : cs[i]? = some (p, c) → c ≠ .gone → Pk (cs.set i (p, .gone)) ds cs' → Pk cs ((p, c) :: ds) cs'
inductive Pt : List (Addr × Cel) → List (Addr × Cel) → List (Addr × Cel) → Prop where
  | nil {cs : List (Addr × Cel)} : Pt cs [] cs
  | cons (i : Nat) {cs ds cs' : List (Addr × Cel)} {p q : Addr} {c : Cel} : cs[i]? = some (q, .gone) → Pt (cs.set i (p, c)) ds cs' → Pt cs ((p, c) :: ds) cs'
section
variable {G H : Hp}
theorem CsI.takes : ∀ {cs ds cs' : List (Addr × Cel)} {bs : List Addr}, Pk cs ds cs' → CsI G H cs bs → ∃ b1 b2, CsI G H ds b1 ∧ CsI G H cs' b2 ∧ (b1 ++ b2).Perm bs
  | _, _, _, bs, .nil, h => ⟨[], bs, .nil, h, List.Perm.refl _⟩
  | _, _, _, _, .cons (p := p) i hi hg hk, h => by
    obtain ⟨l, o, m, r, rfl, hp, hc, reb⟩ := h.at i hi hg
    obtain ⟨b1, b2, h1, h2, pm⟩ := CsI.takes hk ((reb (Ex.refl G) fun _ _ => rfl).2 _)
    refine ⟨_, b2, .cons hp hc h1, h2, ?_⟩
    have e1 : ((p :: (m ++ b1)) ++ b2).Perm ((p :: m) ++ (b1 ++ b2)) := by
      rw [List.cons_append, List.append_assoc]
      exact List.Perm.refl _
    have e2 := List.Perm.append_left (p :: m) pm
    have e3 : ((p :: m) ++ (l ++ r)).Perm (l ++ (p :: m) ++ r) := by
      rw [← List.append_assoc]
      exact List.Perm.append_right _ List.perm_append_comm
    exact e1.trans (e2.trans e3)
theorem CsI.put1 : ∀ {cs : List (Addr × Cel)} {bs : List Addr} (i : Nat) {p q : Addr} {c : Cel} {o : HO} {m : List Addr}, CsI G H cs bs → cs[i]? = some (q, .gone) → H p = some o → CeI G H c o m → ∃ b, CsI G H (cs.set i (p, c)) b ∧ b.Perm ((p :: m) ++ bs)
  | [], _, _, _, _, _, _, _, _, e, _, _ => by simp at e
  | (q0, c0) :: cs, bs, 0, p, q, c, o, m, h, e, hp, hc => by
    have e1 := Option.some.inj (show some (q0, c0) = some (q, Cel.gone) from e)
    cases e1
    cases h with
    | gone h => exact ⟨_, .cons hp hc h, List.Perm.refl _⟩
    | cons _ hc' _ => cases hc'
  | (q0, c0) :: cs, bs, i + 1, p, q, c, o, m, h, e, hp, hc => by
    have e1 : cs[i]? = some (q, Cel.gone) := e
    cases h with
    | gone h =>
      obtain ⟨b, h1, pm⟩ := CsI.put1 i h e1 hp hc
      exact ⟨b, .gone h1, pm⟩
    | @cons _ _ o1 as _ bs hp1 hc1 h =>
      obtain ⟨b, h1, pm⟩ := CsI.put1 i h e1 hp hc
      refine ⟨_, .cons hp1 hc1 h1, ?_⟩
      have e2 : (q0 :: (as ++ b)).Perm ((q0 :: as) ++ ((p :: m) ++ bs)) := List.Perm.append_left (q0 :: as) pm
      refine e2.trans ?_
      have e3 : ((q0 :: as) ++ ((p :: m) ++ bs)).Perm ((p :: m) ++ ((q0 :: as) ++ bs)) := by
        rw [← List.append_assoc, ← List.append_assoc]
        exact List.Perm.append_right _ List.perm_append_comm
      exact e3
theorem CsI.puts : ∀ {cs ds cs' : List (Addr × Cel)} {b1 b2 : List Addr}, Pt cs ds cs' → CsI G H cs b2 → CsI G H ds b1 → ∃ b, CsI G H cs' b ∧ b.Perm (b1 ++ b2)
  | _, _, _, _, b2, .nil, h, hd => by cases hd; exact ⟨b2, h, List.Perm.refl _⟩
  | _, _, _, _, b2, .cons (c := c) i hi hk, h, hd => by
    cases hd with
    | gone hd =>
      -- a hole is put back as a hole
      have e : ∀ {cs : List (Addr × Cel)} {bs : List Addr} (i : Nat) {p q : Addr}, CsI G H cs bs → cs[i]? = some (q, .gone) → CsI G H (cs.set i (p, .gone)) bs := fun {cs bs} => by
        induction cs generalizing bs with
        | nil => intro i p q _ e; simp at e
        | cons a cs ih =>
          intro i p q h e
          cases i with
          | zero =>
            have e1 := Option.some.inj (show some a = some (q, Cel.gone) from e)
            subst e1
            cases h with
            | gone h => exact .gone h
            | cons _ hc _ => cases hc
          | succ i =>
            cases h with
            | gone h => exact .gone (ih i h e)
            | cons h1 h2 h => exact .cons h1 h2 (ih i h e)
      exact CsI.puts hk (e i h hi) hd
    | @cons p _ o m _ bs hp hc hd =>
      obtain ⟨b, h1, pm⟩ := CsI.put1 i h hi hp hc
      obtain ⟨b', h2, pm2⟩ := CsI.puts hk h1 hd
      refine ⟨b', h2, pm2.trans ?_⟩
      have e1 := List.Perm.append_left bs pm
      refine e1.trans ?_
      rw [← List.append_assoc]
      refine List.Perm.append_right _ ?_
      exact List.perm_append_comm
end
/-- the promise of a def: for each g that meets pre, arguments and cells; handed back: res, the cells -/
structure FS (γ : Type) : Type 1 where
  pre : γ → Prop := fun _ => True
  preG : γ → Hp → Prop := fun _ _ => True
  args : γ → List Slot
  cells : γ → List (Addr × Cel) := fun _ => []
  res : γ → Slot
  cells' : γ → List (Addr × Cel) := fun _ => []
def FS.sp {γ : Type} (f : FS γ) : Sp := fun vs H Q _ => ∃ (g : γ) (B : Base), f.pre g ∧ f.preG g B.G ∧ Sta B ⟨[], f.cells g⟩ (f.args g) [] vs H ∧ ∀ v H', Out B (f.res g) (f.cells' g) v H' → Q v H'
/-- from a state: the def's promise may be asked -/
theorem sp_of {γ : Type} (f : FS γ) {B : Base} {S : Stt} {xs T : List Slot} {σ : St} {vs tv : List V} {H : Hp} {cs1 cs2 : List (Addr × Cel)} {Q : VK} {E : XK} (g : γ) (hpre : f.pre g) (hG : ∀ G', Ex B.G G' → f.preG g G') (ha : f.args g = xs) (hl : vs.length = xs.length) (hk : Pk S.cs (f.cells g) cs1) (hb : Pt cs1 (f.cells' g) cs2)
    (hs : Sta B S (xs ++ T) σ (vs ++ tv) H) (q : ∀ w H', Sta B ⟨S.sl, cs2⟩ (f.res g :: T) σ (w :: tv) H' → Q w H') : f.sp vs H Q E := by
  obtain ⟨G, as, bs, z⟩ := hs
  obtain ⟨a1, a2, rfl, g1, z'⟩ := z.split hl.symm
  obtain ⟨b1, b2, c1, c2, pm⟩ := CsI.takes hk z.cel
  have nd : (a1 ++ a2 ++ (b1 ++ b2)).Nodup := (List.Perm.append_left _ pm).nodup_iff.mpr z.nod
  have pm2 : ((a1 ++ b1) ++ (a2 ++ b2)).Perm (a1 ++ a2 ++ (b1 ++ b2)) := by
    rw [List.append_assoc, List.append_assoc]
    refine List.Perm.append_left _ ?_
    rw [← List.append_assoc, ← List.append_assoc]
    exact List.Perm.append_right _ List.perm_append_comm
  have nd2 := pm2.nodup_iff.mpr nd
  have fr : ∀ a ∈ (a1 ++ b1) ++ (a2 ++ b2), G a = none ∧ B.F a = none := fun a ha => z.fre a ((List.Perm.append_left _ pm).mem_iff.mp (pm2.mem_iff.mp ha))
  have dis := (List.nodup_append.mp nd2).2.2
  have nt2 : ∀ a ∈ a2 ++ b2, ∃ o, H a = some o ∧ NT o := fun a ha => (List.mem_append.mp ha).elim (fun h => z'.tmp.nt a h) fun h => c2.nt a h
  have def2 : ∀ a ∈ a2 ++ b2, ∃ o, H a = some o := fun a ha => (List.mem_append.mp ha).elim (fun h => z'.tmp.def a h) fun h => c2.def a h
  refine ⟨g, ⟨G, fun a => if a ∈ a2 ++ b2 then H a else B.F a⟩, hpre, hG G z.gro, ?_, fun v H' ho => ?_⟩
  · rw [ha]
    refine ⟨G, a1, b1, g1, c1, ⟨rfl, fun i s hs => by simp at hs⟩, (List.nodup_append.mp nd2).1, fun a ha => ⟨(fr a (List.mem_append_left _ ha)).1, ?_⟩, Ex.refl G, fun a o h => .inl h, z.sub, fun a o h => ?_⟩
    · show (if a ∈ a2 ++ b2 then H a else B.F a) = none
      rw [if_neg (fun h => dis a ha a h rfl)]
      exact (fr a (List.mem_append_left _ ha)).2
    · have h' : (if a ∈ a2 ++ b2 then H a else B.F a) = some o := h
      by_cases hm : a ∈ a2 ++ b2
      · rw [if_pos hm] at h'; exact h'
      · rw [if_neg hm] at h'; exact z.frm a o h'
  · obtain ⟨G', as', bs', y⟩ := ho
    have keep : ∀ a ∈ a2 ++ b2, H' a = H a := fun a ha => by
      obtain ⟨o, e⟩ := def2 a ha
      rw [e]
      exact y.frm a o (show (if a ∈ a2 ++ b2 then H a else B.F a) = some o by rw [if_pos ha]; exact e)
    have eg : Ex G G' := y.gro
    have y1 := y.tmp
    cases y1 with
    | @cons _ _ r1 _ _ r2 s1 s2 =>
      cases s2
      have y1' : SsI G' H' (f.res g :: T) (v :: tv) (r1 ++ a2) := .cons s1 (z'.tmp.mono eg fun a ha => keep a (List.mem_append_left _ ha))
      obtain ⟨b, cb, pb⟩ := CsI.puts hb (c2.mono eg fun a ha => keep a (List.mem_append_right _ ha)) y.cel
      have own' : ∀ a ∈ r1 ++ [] ++ bs', G' a = none ∧ a ∉ a2 ++ b2 ∧ B.F a = none := fun a ha => by
        obtain ⟨h1, h2⟩ := y.fre a ha
        have h2' : (if a ∈ a2 ++ b2 then H a else B.F a) = none := h2
        by_cases hm : a ∈ a2 ++ b2
        · rw [if_pos hm] at h2'
          obtain ⟨o, e⟩ := def2 a hm
          rw [e] at h2'
          cases h2'
        · rw [if_neg hm] at h2'
          exact ⟨h1, hm, h2'⟩
      have old' : ∀ a ∈ a2 ++ b2, G' a = none ∧ B.F a = none := fun a ha => by
        have f2 := fr a (List.mem_append_right _ ha)
        refine ⟨?_, f2.2⟩
        cases hq : G' a with
        | none => rfl
        | some o =>
          rcases y.new a o hq with h | h | ⟨xs, rfl⟩
          · have h' : G a = some o := h
            rw [f2.1] at h'
            cases h'
          · have h' : (if a ∈ a2 ++ b2 then H a else B.F a) = none := h
            rw [if_pos ha] at h'
            obtain ⟨o', e⟩ := def2 a ha
            rw [e] at h'
            cases h'
          · obtain ⟨o', e, n⟩ := nt2 a ha
            have h1 := y.sub a _ hq
            rw [keep a ha, e] at h1
            cases h1
            exact absurd rfl (n xs)
      have pm3 : (r1 ++ a2 ++ b).Perm ((r1 ++ [] ++ bs') ++ (a2 ++ b2)) := by
        have e1 := List.Perm.append_left (r1 ++ a2) pb
        refine e1.trans ?_
        rw [List.append_nil, List.append_assoc, List.append_assoc]
        refine List.Perm.append_left _ ?_
        rw [← List.append_assoc, ← List.append_assoc]
        exact List.Perm.append_right _ List.perm_append_comm
      have nd3 : (r1 ++ a2 ++ b).Nodup := pm3.nodup_iff.mpr (List.nodup_append.mpr ⟨y.nod, (List.nodup_append.mp nd2).2.1, fun a ha c hc e => (own' a ha).2.1 (e ▸ hc)⟩)
      refine q v H' ⟨G', r1 ++ a2, b, y1', cb, z.slo.mono eg, nd3, fun a ha => ?_, z.gro.trans eg, fun a o h => ?_, y.sub, fun a o h => ?_⟩
      · rcases List.mem_append.mp (pm3.mem_iff.mp ha) with h | h
        · exact ⟨(own' a h).1, (own' a h).2.2⟩
        · exact old' a h
      · rcases y.new a o h with h2 | h2 | h2
        · exact z.new a o h2
        · have h' : (if a ∈ a2 ++ b2 then H a else B.F a) = none := h2
          by_cases hm : a ∈ a2 ++ b2
          · rw [if_pos hm] at h'
            obtain ⟨o', e⟩ := def2 a hm
            rw [e] at h'
            cases h'
          · rw [if_neg hm] at h'
            exact .inr (.inl h')
        · exact .inr (.inr h2)
      · refine y.frm a o ?_
        show (if a ∈ a2 ++ b2 then H a else B.F a) = some o
        by_cases hm : a ∈ a2 ++ b2
        · rw [(fr a (List.mem_append_right _ hm)).2] at h
          cases h
        · rw [if_neg hm]
          exact h
section
variable {X : Cx} {B : Base} {S S1 S2 S3 : Stt} {x y z : Slot} {a b e o : Expr} {es : List Expr} {pos apos : Pos} {D : FE} {rest : List Stmt} {k : Nat} {tg : Expr}
/-- f(e, ..), a def of the text -/
theorem je_call {γ : Type} {f : FS γ} {fa : Addr} {fd : FuncData} {ps : List Str} {n : Str} {p : Pos} {xs : List Slot} {cs1 cs2 : List (Addr × Cel)} (F : FnOk X.prog X.w X.K X.mg X.base CX0 k fa fd ps f.sp) {lv : Nat} (hr : Room lv X.A) (hlv : k ≤ lv) (hm : X.mg n = some (.ref fa)) (hk : PySem.W.keepIn X.K (.ref fa) = true) (hb : Binds X.K fd ps [])
    (ha : JA X B S (e :: es) S1 xs) (g : γ) (hpre : f.pre g) (hx : f.args g = xs) (hpk : Pk S1.cs (f.cells g) cs1) (hpt : Pt cs1 (f.cells' g) cs2) (hG : ∀ G', Ex B.G G' → f.preG g G' := by exact fun _ _ => trivial) (hg : Gl X n := by rfl) (hdb : (n == ("__debug__" : Str)) = false := by decide) (he : starEach (e :: es) X.env = (false, eval e X.env) :: starEach es X.env := by rfl) (hpl : (backTo pos (starEach es X.env)).any (·.1) = false := by rfl) :
    JE X B S (.Call (.Name n p) (e :: es) [] pos) ⟨S1.sl, cs2⟩ (f.res g) := fun T tv σ H Q h q =>
  pe1 (pe_call F (hr.mono hlv) hg hm hk hb .nil pass0 pa0 hdb he hpl) (ha _ _ _ _ _ h fun vs H1 hl h1 => by
    rw [List.append_nil]
    exact sp_of f g hpre hG hx hl hpk hpt h1 q)
theorem SsI.slots {G H : Hp} : ∀ {ss : List Slot} {vs : List V} {as : List Addr}, SsI G H ss vs as → (∀ s ∈ ss, s.plain = true) → ∀ (i : Nat) s, ss[i]? = some s → ∃ u, vs[i]? = some u ∧ SlOk G s (some u)
  | _, _, _, .nil, _, i, s, h => by simp at h
  | _, _, _, .cons (u := u) h1 h2, hp, 0, s, h => by
    have e := Option.some.inj (show some _ = some s from h)
    subst e
    exact ⟨u, rfl, h1.ok (hp _ List.mem_cons_self)⟩
  | _, _, _, .cons h1 h2, hp, i + 1, s, h => SsI.slots h2 (fun s hs => hp s (List.mem_cons_of_mem _ hs)) i s h
theorem Sta.enter {xs : List Slot} {vs : List V} {H : Hp} {cs : List (Addr × Cel)} {N : List Str} (h : Sta B ⟨[], cs⟩ xs [] vs H) (hp : ∀ s ∈ xs, s.plain = true) : Sta B ⟨xs ++ List.replicate (N.length - xs.length) .any, cs⟩ [] (start N vs) [] H := by
  obtain ⟨G, as, bs, z⟩ := h
  have hl := z.tmp.len
  have e := z.tmp.plain hp
  subst e
  refine ⟨G, [], bs, .nil, z.cel, ⟨?_, fun i s hs => ?_⟩, z.nod, z.fre, z.gro, z.new, z.sub, z.frm⟩
  · show (xs ++ List.replicate (N.length - xs.length) Slot.any).length = (vs.map some ++ List.replicate (N.length - vs.length) none).length
    rw [List.length_append, List.length_append, List.length_map, List.length_replicate, List.length_replicate, hl]
  · show ∃ o, (vs.map some ++ List.replicate (N.length - vs.length) none)[i]? = some o ∧ SlOk G s o
    by_cases hi : i < xs.length
    · rw [List.getElem?_append_left hi] at hs
      obtain ⟨u, h1, h2⟩ := z.tmp.slots hp i s hs
      exact ⟨some u, by rw [List.getElem?_append_left (by rw [List.length_map]; omega), List.getElem?_map, h1] <;> rfl, h2⟩
    · rw [List.getElem?_append_right (by omega), List.getElem?_replicate] at hs
      split at hs
      · cases hs
        refine ⟨none, ?_, trivial⟩
        rw [List.getElem?_append_right (by rw [List.length_map]; omega), List.getElem?_replicate, List.length_map, if_pos (by omega)]
      · cases hs
theorem tb_mono {st : List Stmt} {D D' : Ends} {σ : St} {H : Hp} (h : tbOf X st D σ H) (h1 : ∀ σ H, D.nx σ H → D'.nx σ H) (h2 : ∀ v H, D.rt v H → D'.rt v H) (h3 : ∀ σ H, D.bk σ H → D'.bk σ H) (h4 : ∀ σ H, D.ct σ H → D'.ct σ H) : tbOf X st D' σ H := ⟨fun pins s I => thn (h.run pins s I) fun f s1 q => by
  cases f with
  | next => obtain ⟨σ', H', I', q⟩ := q; exact ⟨σ', H', I', h1 _ _ q⟩
  | brk => obtain ⟨σ', H', I', q⟩ := q; exact ⟨σ', H', I', h3 _ _ q⟩
  | cont => obtain ⟨σ', H', I', q⟩ := q; exact ⟨σ', H', I', h4 _ _ q⟩
  | ret u => obtain ⟨v, σ', H', I', r, q⟩ := q; exact ⟨v, σ', H', I', r, h2 _ _ q⟩⟩
/-- what a body is to reach -/
abbrev fend {γ : Type} (B : Base) (f : FS γ) (g : γ) : FE := { nx := fun T tv σ H => Out B (f.res g) (f.cells' g) .non H, rt := Out B (f.res g) (f.cells' g) }
abbrev fctx (P : Program) (w : World) (K : PySem.W.Frag) (mg : Str → Option Value) (base : Heap) (N : List Str) (qual : Str) (sc : Scope) (fa : Addr) (cdv : Value) (A : Around) (outer : List Env) (s : Shared) (H : Hp) (E : XK) : Cx := (cxOf CX0 P w K mg base N qual sc fa cdv A outer s H E).nox
end
end J
namespace J
universe u w
open PySem L2
open PySem.W (Datum DatumOrd Holds HoldAll T3 T4)
/-! ### the mirror's guards -/
def mulG (i j : Int) : Option Int := if ((-(18446744073709551616) < i ∧ i < 18446744073709551616) ∨ (-(18446744073709551616) < j ∧ j < 18446744073709551616)) then some (i * j) else none
def divG (i j : Int) : Option Int := if 0 < j ∧ j < 18446744073709551616 then some (i / j) else none
def modG (i j : Int) : Option Int := if 0 < j then some (i % j) else none
def powG (i : Int) (n : Nat) : Option Int := if i.natAbs < 18446744073709551616 then some (i ^ n) else none
def andM (p : Bool) (m : Option Bool) : Option Bool := if p = true then m else some false
def orM (p : Bool) (m : Option Bool) : Option Bool := if p = true then some true else m
def ifM {α : Type} (p : Bool) (m n : Option α) : Option α := if p = true then m else n
theorem ifT {α : Type} {p : Bool} {a b c : α} (hp : p = true) (h : (if p = true then a else b) = c) : a = c := by rw [if_pos hp] at h; exact h
theorem ifF {α : Type} {p : Bool} {a b c : α} (hp : p = false) (h : (if p = true then a else b) = c) : b = c := by rw [if_neg (by rw [hp]; decide)] at h; exact h
/-! dicts with literal or typed keys -/
section
variable {G H : Hp}
/-! ### a part of a thing: with a name of its own, or owned by the thing -/
def Cel.nth : Cel → Nat → Option Slot
  | .lst ss, j => ss[j]?
  | .ins _ fs, j => (fs[j]?).map (·.2)
  | .dk _ ss, j => ss[j]?
  | .fdk _ _ ss, j => ss[j]?
  | .gone, _ => none
  | .say _, _ => none
def setF2 {α β : Type _} (fs : List (α × β)) (j : Nat) (y : β) : List (α × β) := match fs, j with
  | [], _ => []
  | (a, _) :: r, 0 => (a, y) :: r
  | p :: r, j + 1 => p :: setF2 r j y
def Cel.sub : Cel → Nat → Slot → Cel
  | .lst ss, j, y => .lst (ss.set j y)
  | .ins C fs, j, y => .ins C (setF2 fs j y)
  | .dk ks ss, j, y => .dk ks (ss.set j y)
  | .fdk o ks ss, j, y => .fdk o ks (ss.set j y)
  | .gone, _, _ => .gone
  | .say ψ, _, _ => .say ψ
theorem setF2_snd {α β : Type _} : ∀ (fs : List (α × β)) (j : Nat) (y : β), (setF2 fs j y).map (·.2) = (fs.map (·.2)).set j y
  | [], _, _ => by simp [setF2]
  | (a, b) :: r, 0, y => rfl
  | p :: r, j + 1, y => by
    show p.2 :: (setF2 r j y).map (·.2) = p.2 :: (r.map (·.2)).set j y
    rw [setF2_snd r j y]
theorem setF2_fst {α β : Type _} : ∀ (fs : List (α × β)) (j : Nat) (y : β), (setF2 fs j y).map (·.1) = fs.map (·.1)
  | [], _, _ => by simp [setF2]
  | (a, b) :: r, 0, y => rfl
  | p :: r, j + 1, y => by
    show p.1 :: (setF2 r j y).map (·.1) = p.1 :: r.map (·.1)
    rw [setF2_fst r j y]
/-- the j-th slot taken out of a row, another one put in -/
theorem SsI.part : ∀ {ss : List Slot} {vs : List V} {as : List Addr} (j : Nat) {s : Slot}, SsI G H ss vs as → ss[j]? = some s → ∃ a1 u m a2, as = a1 ++ m ++ a2 ∧ vs[j]? = some u ∧ SlI G H s u m ∧ ∀ {s' m'}, SlI G H s' u m' → SsI G H (ss.set j s') vs (a1 ++ m' ++ a2)
  | [], _, _, _, _, _, e => by simp at e
  | s0 :: ss, vs, as, 0, s, h, e => by
    have e1 := Option.some.inj (show some s0 = some s from e)
    subst e1
    cases h with
    | @cons _ u m _ vs a2 h1 h2 => exact ⟨[], u, m, a2, rfl, rfl, h1, fun h' => .cons h' h2⟩
  | s0 :: ss, vs, as, j + 1, s, h, e => by
    cases h with
    | @cons _ u0 m0 _ vs a0 h1 h2 =>
      obtain ⟨a1, u, m, a2, rfl, hu, hs, reb⟩ := SsI.part (ss := ss) j h2 (show ss[j]? = some s from e)
      refine ⟨m0 ++ a1, u, m, a2, by simp only [List.append_assoc], hu, hs, fun {s' m'} h' => ?_⟩
      have := SsI.cons h1 (reb h')
      simpa only [List.append_assoc, List.set_cons_succ] using this
theorem CeI.part {c : Cel} {o : HO} {as : List Addr} (h : CeI G H c o as) (j : Nat) {s : Slot} (e : c.nth j = some s) : ∃ a1 u m a2, as = a1 ++ m ++ a2 ∧ SlI G H s u m ∧ ∀ {s' m'}, SlI G H s' u m' → CeI G H (c.sub j s') o (a1 ++ m' ++ a2) := by
  cases h with
  | lst h =>
    obtain ⟨a1, u, m, a2, rfl, _, hs, reb⟩ := h.part j e
    exact ⟨a1, u, m, a2, rfl, hs, fun h' => .lst (reb h')⟩
  | @ins C dx fs gs as h1 h =>
    have e' : (fs.map (·.2))[j]? = some s := by rw [List.getElem?_map]; exact e
    obtain ⟨a1, u, m, a2, rfl, _, hs, reb⟩ := h.part j e'
    refine ⟨a1, u, m, a2, rfl, hs, fun h' => .ins (by rw [setF2_fst]; exact h1) ?_⟩
    rw [setF2_snd]
    exact reb h'
  | dk h1 h =>
    obtain ⟨a1, u, m, a2, rfl, _, hs, reb⟩ := h.part j e
    exact ⟨a1, u, m, a2, rfl, hs, fun h' => .dk h1 (reb h')⟩
  | fdk h =>
    obtain ⟨a1, u, m, a2, rfl, _, hs, reb⟩ := h.part j e
    exact ⟨a1, u, m, a2, rfl, hs, fun h' => .fdk (reb h')⟩
  | say m h => cases e
end
section
variable {X : Cx} {B : Base} {S S1 S2 S3 : Stt} {x y z : Slot} {a b e o : Expr} {es : List Expr} {pos apos : Pos} {D : FE} {rest : List Stmt} {kk : Nat} {tg : Expr}
/-- the j-th part of the k-th cell gets a name -/
theorem js_open (k j : Nat) {p : Addr} {c d : Cel} (hk : S.cs[k]? = some (p, c)) (hj : c.nth j = some (.own d)) (h : ∀ q, JS X B ⟨S.sl, S.cs.set k (p, c.sub j (.v (.ref q))) ++ [(q, d)]⟩ rest D) : JS X B S rest D := fun T tv σ H hs => by
  obtain ⟨G, as, bs, z⟩ := hs
  have hg : c ≠ .gone := by intro e; subst e; cases hj
  obtain ⟨l, o, m, r, rfl, hp, hc, reb⟩ := z.cel.at k hk hg
  obtain ⟨a1, u, m1, a2, rfl, hs1, reb2⟩ := hc.part j hj
  cases hs1 with
  | @own _ q od mq hq hd =>
    have c2 := (reb (Ex.refl G) fun _ _ => rfl).1 hp (reb2 (.v : SlI G H (.v (.ref q)) (.ref q) []))
    have c3 := c2.app (.cons hq hd .nil)
    have pm : (l ++ p :: (a1 ++ [] ++ a2) ++ r ++ (q :: (mq ++ []))).Perm (l ++ p :: (a1 ++ q :: mq ++ a2) ++ r) := by
      simp only [List.append_nil, List.append_assoc, List.cons_append]
      refine List.Perm.append_left l (List.Perm.cons p (List.Perm.append_left a1 ?_))
      have e1 : ((a2 ++ r) ++ (q :: mq)).Perm ((q :: mq) ++ (a2 ++ r)) := List.perm_append_comm
      simpa only [List.append_assoc, List.cons_append] using e1
    have pm2 := List.Perm.append_left as pm
    exact h q T tv σ H ⟨G, as, _, z.tmp, c3, z.slo, pm2.nodup_iff.mpr z.nod, fun a ha => z.fre a (pm2.mem_iff.mp ha), z.gro, z.new, z.sub, z.frm⟩
/-- a name's thing, as a temporary one of its own -/
theorem Sta.own {T : List Slot} {σ : St} {tv : List V} {H : Hp} {p : Addr} {v : V} {c : Cel} (h : Sta B S (.v (.ref p) :: T) σ (v :: tv) H) (k : Nat) (hk : S.cs[k]? = some (p, c)) (hg : c ≠ .gone) : Sta B ⟨S.sl, S.cs.set k (p, .gone)⟩ (.own c :: T) σ (v :: tv) H := by
  have ev := h.exact
  subst ev
  obtain ⟨G, as, bs, z⟩ := h
  obtain ⟨a1, a2, rfl, g, z'⟩ := z.pop
  cases g with
  | v =>
    obtain ⟨l, o, m, r, rfl, hp, hc, reb⟩ := z.cel.at k hk hg
    have pm : ((p :: m) ++ a2 ++ (l ++ r)).Perm (([] ++ a2) ++ (l ++ p :: m ++ r)) := by
      rw [List.nil_append]
      have e1 : (a2 ++ (l ++ p :: m ++ r)).Perm (a2 ++ ((p :: m) ++ (l ++ r))) := List.Perm.append_left _ (by
        rw [← List.append_assoc]
        exact List.Perm.append_right _ List.perm_append_comm)
      have e2 : (a2 ++ ((p :: m) ++ (l ++ r))).Perm ((p :: m) ++ a2 ++ (l ++ r)) := by
        rw [← List.append_assoc]
        exact List.Perm.append_right _ List.perm_append_comm
      exact (e1.trans e2).symm
    exact ⟨G, (p :: m) ++ a2, l ++ r, .cons (.own hp hc) z'.tmp, (reb (Ex.refl G) fun _ _ => rfl).2 p, z.slo, pm.nodup_iff.mpr z.nod, fun a ha => z.fre a (pm.mem_iff.mp ha), z.gro, z.new, z.sub, z.frm⟩
theorem je_own (k : Nat) {p : Addr} {c : Cel} (h : JE X B S e S1 (.v (.ref p))) (hk : S1.cs[k]? = some (p, c)) (hg : c ≠ .gone := by nofun) : JE X B S e ⟨S1.sl, S1.cs.set k (p, .gone)⟩ (.own c) := fun T tv σ H Q hs q => h _ _ _ _ _ hs fun v H' g => q v H' (g.own k hk hg)
/-- the j-th part of a temporary thing is the k-th cell's: it is taken in -/
theorem Sta.fold {T : List Slot} {σ : St} {tv : List V} {H : Hp} {q : Addr} {v : V} {c d : Cel} (h : Sta B S (.own c :: T) σ (v :: tv) H) (k j : Nat) (hj : c.nth j = some (.v (.ref q))) (hk : S.cs[k]? = some (q, d)) (hg : d ≠ .gone) : Sta B ⟨S.sl, S.cs.set k (q, .gone)⟩ (.own (c.sub j (.own d)) :: T) σ (v :: tv) H := by
  obtain ⟨G, as, bs, z⟩ := h
  obtain ⟨a1, a2, rfl, g, z'⟩ := z.pop
  cases g with
  | @own _ p o m hp hc =>
    obtain ⟨l, od, md, r, rfl, hq, hd, reb⟩ := z.cel.at k hk hg
    obtain ⟨b1, u, m1, b2, rfl, hs1, reb2⟩ := hc.part j hj
    cases hs1 with
    | v =>
      have c2 := reb2 (.own hq hd)
      have pm : ((p :: (b1 ++ (q :: md) ++ b2)) ++ a2 ++ (l ++ r)).Perm ((p :: (b1 ++ [] ++ b2)) ++ a2 ++ (l ++ (q :: md) ++ r)) := by
        rw [List.append_nil]
        have e1 : ((p :: (b1 ++ (q :: md) ++ b2)) ++ a2 ++ (l ++ r)).Perm ((q :: md) ++ ((p :: (b1 ++ b2)) ++ a2 ++ (l ++ r))) := by
          have f1 : (p :: (b1 ++ (q :: md) ++ b2)).Perm ((q :: md) ++ (p :: (b1 ++ b2))) := by
            have g1 : (b1 ++ (q :: md) ++ b2).Perm ((q :: md) ++ (b1 ++ b2)) := by
              rw [← List.append_assoc]
              exact List.Perm.append_right _ List.perm_append_comm
            have g2 : (p :: ((q :: md) ++ (b1 ++ b2))).Perm ((q :: md) ++ (p :: (b1 ++ b2))) := List.perm_middle.symm
            exact (List.Perm.cons p g1).trans g2
          have f2 := List.Perm.append_right (l ++ r) (List.Perm.append_right a2 f1)
          rw [List.append_assoc (q :: md), List.append_assoc (q :: md)] at f2
          exact f2
        refine e1.trans ?_
        have e2 : (l ++ (q :: md) ++ r).Perm ((q :: md) ++ (l ++ r)) := by
          rw [← List.append_assoc]
          exact List.Perm.append_right _ List.perm_append_comm
        have e3 := List.Perm.append_left ((p :: (b1 ++ b2)) ++ a2) e2
        refine List.Perm.trans ?_ e3.symm
        rw [← List.append_assoc, ← List.append_assoc ((p :: (b1 ++ b2)) ++ a2)]
        exact List.Perm.append_right _ List.perm_append_comm
      exact ⟨G, _, l ++ r, .cons (.own hp c2) z'.tmp, (reb (Ex.refl G) fun _ _ => rfl).2 q, z.slo, pm.nodup_iff.mpr z.nod, fun a ha => z.fre a (pm.mem_iff.mp ha), z.gro, z.new, z.sub, z.frm⟩
theorem je_fold (k j : Nat) {q : Addr} {c d : Cel} (h : JE X B S e S1 (.own c)) (hj : c.nth j = some (.v (.ref q))) (hk : S1.cs[k]? = some (q, d)) (hg : d ≠ .gone := by nofun) : JE X B S e ⟨S1.sl, S1.cs.set k (q, .gone)⟩ (.own (c.sub j (.own d))) := fun T tv σ H Q hs q' => h _ _ _ _ _ hs fun v H' g => q' v H' (g.fold k j hj hk hg)
/-! ### impure parts of tests, guarded operators -/
section
variable {i j r : Int} {p q : Bool} {m m2 : Option Bool} {rs : List Expr}
theorem je_mulG (ha : JE X B S a S1 (.val i)) (hb : JE X B S1 b S2 (.val j)) (h : mulG i j = some r) : JE X B S (.BinOp a .Mult b pos) S2 (.val r) := by
  unfold mulG at h
  split at h
  · cases h
    exact je_mul ha hb (by assumption)
  · cases h
theorem je_divG (ha : JE X B S a S1 (.val i)) (hb : JE X B S1 b S2 (.val j)) (h : divG i j = some r) : JE X B S (.BinOp a .FloorDiv b pos) S2 (.val r) := by
  unfold divG at h
  split at h
  · cases h
    exact je_div ha hb (by assumption)
  · cases h
theorem je_modG (ha : JE X B S a S1 (.val i)) (hb : JE X B S1 b S2 (.val j)) (h : modG i j = some r) : JE X B S (.BinOp a .Mod b pos) S2 (.val r) := by
  unfold modG at h
  split at h
  · cases h
    exact je_mod ha hb (by assumption)
  · cases h
theorem je_powG (n : Nat) (ha : JE X B S a S1 (.val i)) (hb : JE X B S1 b S2 (.val (n : Int))) (hn : n ≤ 1000000) (h : powG i n = some r) : JE X B S (.BinOp a .Pow b pos) S2 (.val r) := by
  unfold powG at h
  split at h
  · cases h
    exact je_pow ha hb hn (by assumption)
  · cases h
theorem jw_andM (he : andM p m = some q) (h : JT X B S a S1 p) (h2 : p = true → ∀ r, m = some r → JW X B S1 (.BoolOp .And (b :: rs) pos) S1 r) : JW X B S (.BoolOp .And (a :: b :: rs) pos) S1 q := by
  unfold andM at he
  cases p with
  | true =>
    rw [if_pos rfl] at he
    have := jw_and (q := q) h fun _ => h2 rfl q he
    rwa [Bool.true_and] at this
  | false =>
    rw [if_neg (by decide)] at he
    cases he
    have := jw_and (b := b) (rest := rs) (pos := pos) (q := false) h (fun e => nomatch e)
    rwa [Bool.and_false] at this
theorem jw_orM (he : orM p m = some q) (h : JT X B S a S1 p) (h2 : p = false → ∀ r, m = some r → JW X B S1 (.BoolOp .Or (b :: rs) pos) S1 r) : JW X B S (.BoolOp .Or (a :: b :: rs) pos) S1 q := by
  unfold orM at he
  cases p with
  | false =>
    rw [if_neg (by decide)] at he
    have := jw_or (q := q) h fun _ => h2 rfl q he
    rwa [Bool.false_or] at this
  | true =>
    rw [if_pos rfl] at he
    cases he
    have := jw_or (b := b) (rest := rs) (pos := pos) (q := true) h (fun e => nomatch e)
    rwa [Bool.or_true] at this
theorem je_ifM {α : Type} {ma mb : Option α} {t : α} {el : α → Slot} {c : Expr} (he : ifM p ma mb = some t) (h : JT X B S c S1 p) (h1 : p = true → ∀ r, ma = some r → JE X B S1 a S2 (el r)) (h2 : p = false → ∀ r, mb = some r → JE X B S1 b S2 (el r)) : JE X B S (.IfExp c a b pos) S2 (el t) := by
  unfold ifM at he
  cases p with
  | true => rw [if_pos rfl] at he; exact je_if h (fun _ => h1 rfl t he) fun e => nomatch e
  | false => rw [if_neg (by decide)] at he; exact je_if h (fun e => nomatch e) fun _ => h2 rfl t he
end
/-! ### lists made of others -/
/-- xs + ys, lists that stand in the heap -/
theorem je_cat {s1 s2 : List Slot} (ha : JE X B S a S1 x) (hb : JE X B S1 b S2 y) (h1 : ∀ {T σ v tv H G as bs}, St0 B S2 (x :: T) σ (v :: tv) H G as bs → ∃ p vs, v = .ref p ∧ H p = some (.lst vs) ∧ SsI G H s1 vs []) (h2 : ∀ {T σ v tv H G as bs}, St0 B S2 (y :: T) σ (v :: tv) H G as bs → ∃ p vs, v = .ref p ∧ H p = some (.lst vs) ∧ SsI G H s2 vs []) (hl : s1.length + s2.length ≤ 16777216) : JE X B S (.BinOp a .Add b pos) S2 (.own (.lst (s1 ++ s2))) :=
  je_op op_cat ha hb fun T tv σ v u H Q h q => by
    obtain ⟨G, as, bs, z⟩ := h
    obtain ⟨a1, a2, rfl, _, z1⟩ := id z.pop
    obtain ⟨p2, vs2, rfl, hp2, hs2⟩ := h2 z
    obtain ⟨p1, vs1, rfl, hp1, hs1⟩ := h1 z1
    obtain ⟨a3, a4, rfl, _, z2⟩ := id z1.pop
    exact ⟨p1, p2, vs1, vs2, rfl, rfl, hp1, hp2, by rw [← hs1.len, ← hs2.len]; exact hl, fun r hr => q _ _ (z2.newO hr (.lst (hs1.any'.app hs2.any')))⟩
/-- a list that stands in the heap itself -/
def Lh (B : Base) (S : Stt) (x : Slot) (ss : List Slot) : Prop := ∀ {T σ v tv H G as bs}, St0 B S (x :: T) σ (v :: tv) H G as bs → ∃ p vs, v = .ref p ∧ H p = some (.lst vs) ∧ SsI G H ss vs []
theorem lh_own {α : Type} [DecidableEq α] [Datum α] {xs : List α} : Lh B S (.own (.lst (xs.map Slot.val))) (xs.map Slot.val) := fun z => by
  obtain ⟨a1, a2, _, h, z'⟩ := z.pop
  cases h with
  | own hp' hc =>
    cases hc with
    | lst hs => exact ⟨_, _, rfl, hp', hs.plain (plain_map xs) ▸ hs⟩
theorem lh_cell {α : Type} [DecidableEq α] [Datum α] {xs : List α} (k : Nat) {p : Addr} (hk : S.cs[k]? = some (p, .lst (xs.map Slot.val))) : Lh B S (.v (.ref p)) (xs.map Slot.val) := fun z => by
  obtain ⟨a1, a2, _, h, z'⟩ := z.pop
  cases h with
  | v =>
    obtain ⟨l, o, m, r, _, hp', hc, _⟩ := z.cel.at k hk (by intro e; cases e)
    cases hc with
    | lst hs => exact ⟨_, _, rfl, hp', hs.plain (plain_map xs) ▸ hs⟩
def catG {α : Type} (xs ys : List α) : Option (List α) := if xs.length + ys.length ≤ 16777216 then some (xs ++ ys) else none
theorem je_catG {α : Type} [DecidableEq α] [Datum α] {xs ys zs : List α} (ha : JE X B S a S1 x) (hb : JE X B S1 b S2 y) (h1 : Lh B S2 x (xs.map Slot.val)) (h2 : Lh B S2 y (ys.map Slot.val)) (h : catG xs ys = some zs) : JE X B S (.BinOp a .Add b pos) S2 (.own (.lst (zs.map Slot.val))) := by
  unfold catG at h
  split at h
  · cases h
    rw [List.map_append]
    exact je_cat ha hb h1 h2 (by rw [List.length_map, List.length_map]; assumption)
  · cases h
/-- xs.extend(ys), xs a name's list -/
theorem je_extG {α : Type} [DecidableEq α] [Datum α] {xs ys zs : List α} (k : Nat) {p : Addr} {ss0 : List Slot} (ho : JE X B S o S1 (.v (.ref p))) (hk0 : S1.cs[k]? = some (p, .lst ss0)) (he : JE X B S1 e S2 y) (hk : S2.cs[k]? = some (p, .lst (xs.map Slot.val))) (hy : Lh B S2 y (ys.map Slot.val)) (h : catG xs ys = some zs)
    (hbase : attributeBase o "extend" X.env (eval o X.env) = eval o X.env := by rfl) (hst : starEach [e] X.env = (false, eval e X.env) :: starEach [] X.env := by rfl)
    (hfew : ((backTo pos (starEach [e] X.env)).all (fun x => !x.1) && (backToKw pos (keywordEach [] X.env)).all (fun x => x.1.isSome) && decide (([e] : List Expr).length + ([] : List Keyword).length + (if ([] : List Keyword).isEmpty then 0 else 1) < 30)) = true := by rfl)
    (hline : (apos.endLine == pos.line) = true := by rfl) : JE X B S (.Call (.Attribute o "extend" apos) [e] [] pos) ⟨S2.sl, S2.cs.set k (p, .lst (zs.map Slot.val))⟩ (.v .non) :=
  je_bm k PySem.F.slot_list_extend PySem.F.type_list_extend mt_extend ho hk0 (ja_cons he ja_nil hst) (fun T tv σ vs H Q hl' hh q => by
    obtain ⟨v, rfl⟩ : ∃ v, vs = [v] := match vs, hl' with | [v], _ => ⟨v, rfl⟩
    unfold catG at h
    split at h
    · rename_i hlen
      cases h
      obtain ⟨G, as, bs, z0⟩ := id hh
      obtain ⟨q2, vs2, rfl, hq2, hs2⟩ := hy z0
      obtain ⟨a1, a2, rfl, hs1, z1⟩ := z0.pop
      obtain ⟨oo, m, hpp, hc, _, hm1, _, reb⟩ := z1.cellW hk (by intro e; cases e)
      cases hc with
      | @lst _ vs0 _ hs =>
        obtain rfl := hs.plain (plain_map xs)
        have l1 := hs.len
        have l2 := hs2.len
        rw [List.length_map] at l1 l2
        refine ⟨p, q2, vs0, vs2, rfl, rfl, hpp, hq2, by rw [← l1, ← l2]; exact hlen, ?_⟩
        have hnew : CeI G (upd H p (.lst (vs0 ++ vs2))) (.lst ((xs ++ ys).map Slot.val)) (.lst (vs0 ++ vs2)) [] := by
          rw [List.map_append]
          exact .lst (hs.any'.app hs2.any')
        obtain ⟨bs', z3⟩ := reb hnew (List.Sublist.refl _)
        exact q _ _ (z3.push .v)
    · cases h) hbase hfew hline hst
/-! any, all of made lists of truths -/
end
end J
namespace J
universe u w
open PySem L2
open PySem.W (Datum DatumOrd Holds HoldAll T3 T4)
/-! ### dicts whose keys are written -/
section
end
end J
namespace J
universe u w
open PySem L2
open PySem.W (Datum DatumOrd Holds HoldAll T3 T4)
/-! ### what may fail is told by none: the rules over it -/
def lcM {ι α β : Type} (f : ι → α → Option (Option β × ι)) (xs : List α) (s : ι) : Option (List β × ι) := if xs.length ≤ 16777216 then cmpM f xs s else none
theorem lcM_of {ι α β : Type} {f : ι → α → Option (Option β × ι)} {xs : List α} {s : ι} {r : List β × ι} (h : lcM f xs s = some r) : xs.length ≤ 16777216 ∧ cmpM f xs s = some (r.1, r.2) := by
  unfold lcM at h
  by_cases e : xs.length ≤ 16777216
  · rw [if_pos e] at h; exact ⟨e, h⟩
  · rw [if_neg e] at h; cases h
def rngG (j : Int) : Option (List Int) := if -(4611686018427387904 : Int) ≤ j ∧ j < 4611686018427387904 then some (rng 0 j.toNat) else none
def minG {α : Type} [DecidableEq α] [DatumOrd α] : List α → Option α
  | [] => none
  | t :: ts => some (PySem.W.minOf t ts)
def maxG {α : Type} [DecidableEq α] [DatumOrd α] : List α → Option α
  | [] => none
  | t :: ts => some (PySem.W.maxOf t ts)
def popG {α : Type} (xs : List α) (i : Int) : Option (α × List α) := if xs.length ≤ 16777216 then (ixp xs.length i).bind fun j => xs[j]?.bind fun t => some (t, xs.eraseIdx j) else none
def idxG {α : Type} [DecidableEq α] (xs : List α) (t : α) : Option Int := if t ∈ xs then some ((xs.idxOf t : Nat) : Int) else none
theorem popG_of {α : Type} {xs : List α} {i : Int} {r : α × List α} (h : popG xs i = some r) : ∃ j, xs.length ≤ 16777216 ∧ ixp xs.length i = some j ∧ xs[j]? = some r.1 ∧ r.2 = xs.eraseIdx j := by
  unfold popG at h
  by_cases e : xs.length ≤ 16777216
  · rw [if_pos e] at h
    refine bnd h fun j hj h => bnd h fun t ht h => ?_
    cases h
    exact ⟨j, e, hj, ht, rfl⟩
  · rw [if_neg e] at h; cases h
theorem map_erase {α : Type u} {β : Type w} (f : α → β) : ∀ (xs : List α) (j : Nat), (xs.eraseIdx j).map f = (xs.map f).eraseIdx j
  | [], _ => rfl
  | _ :: _, 0 => rfl
  | x :: xs, j + 1 => congrArg (f x :: ·) (map_erase f xs j)
section
variable {X : Cx} {B : Base} {S S1 S2 S3 : Stt} {x y z : Slot} {a b e o : Expr} {es : List Expr} {pos apos : Pos} {D : FE} {rest : List Stmt} {kk : Nat} {tg : Expr} {p : Addr}
theorem je_appG {α : Type} [DecidableEq α] [Datum α] {xs ys : List α} {t : α} (k : Nat) {ss0 : List Slot} (ho : JE X B S o S1 (.v (.ref p))) (hk0 : S1.cs[k]? = some (p, .lst ss0)) (he : JE X B S1 e S2 (.val t)) (hk : S2.cs[k]? = some (p, .lst (xs.map Slot.val))) (h : psh xs t = some ys)
    (hbase : attributeBase o "append" X.env (eval o X.env) = eval o X.env := by rfl) (hst : starEach [e] X.env = (false, eval e X.env) :: starEach [] X.env := by rfl)
    (hfew : ((backTo pos (starEach [e] X.env)).all (fun x => !x.1) && (backToKw pos (keywordEach [] X.env)).all (fun x => x.1.isSome) && decide (([e] : List Expr).length + ([] : List Keyword).length + (if ([] : List Keyword).isEmpty then 0 else 1) < 30)) = true := by rfl)
    (hline : (apos.endLine == pos.line) = true := by rfl) : JE X B S (.Call (.Attribute o "append" apos) [e] [] pos) ⟨S2.sl, S2.cs.set k (p, .lst (ys.map Slot.val))⟩ (.v .non) := by
  obtain ⟨hl, rfl⟩ := psh_some h
  have := je_append (y := .val t) k ho hk0 he hk (by rw [List.length_map]; exact hl) rfl hbase hst hfew hline
  rw [List.map_append]
  exact this
theorem je_popG {α : Type} [DecidableEq α] [Datum α] {xs : List α} {i : Int} {r : α × List α} (k : Nat) {ss0 : List Slot} (ho : JE X B S o S1 (.v (.ref p))) (hk0 : S1.cs[k]? = some (p, .lst ss0)) (he : JE X B S1 e S2 (.val i)) (hk : S2.cs[k]? = some (p, .lst (xs.map Slot.val))) (h : popG xs i = some r)
    (hbase : attributeBase o "pop" X.env (eval o X.env) = eval o X.env := by rfl) (hst : starEach [e] X.env = (false, eval e X.env) :: starEach [] X.env := by rfl)
    (hfew : ((backTo pos (starEach [e] X.env)).all (fun x => !x.1) && (backToKw pos (keywordEach [] X.env)).all (fun x => x.1.isSome) && decide (([e] : List Expr).length + ([] : List Keyword).length + (if ([] : List Keyword).isEmpty then 0 else 1) < 30)) = true := by rfl)
    (hline : (apos.endLine == pos.line) = true := by rfl) : JE X B S (.Call (.Attribute o "pop" apos) [e] [] pos) ⟨S2.sl, S2.cs.set k (p, .lst (r.2.map Slot.val))⟩ (.val r.1) := by
  obtain ⟨j, hl, hj, ht, e⟩ := popG_of h
  have := je_popAt (s := .val r.1) k ho hk0 he hk (plain_map xs) (by rw [List.length_map]; exact hj) (by rw [List.getElem?_map, ht]; rfl) (by rw [List.length_map]; exact hl) hbase hst hfew hline
  rw [e, map_erase]
  exact this
/-- xs[i] = t -/
theorem jg_subG {α : Type} [DecidableEq α] [Datum α] {xs ys : List α} {t : α} (k : Nat) {i : Int} {ix : Expr} (ho : JE X B S o S1 (.v (.ref p))) (hi : JE X B S1 ix S2 (.val i)) (hk : S2.cs[k]? = some (p, .lst (xs.map Slot.val))) (h : stx xs i t = some ys)
    (ha : ∀ v, assign (.Subscript o ix pos) X.env v = (do
      let ov ← holding [v] (eval o X.env)
      let iv ← holding [v, ov] (eval ix X.env)
      standAt pos
      holding [v, ov, iv] (setItem ov iv v)
      release [v, ov, iv] []) := by intro _; rfl) : JG X B S (.Subscript o ix pos) (.val t) ⟨S2.sl, S2.cs.set k (p, .lst (ys.map Slot.val))⟩ [] := by
  unfold stx at h
  refine bnd h fun j hj h => ?_
  cases h
  have := jg_sub (y := .val t) k ho hi hk (by rw [List.length_map]; exact hj) (plain_map xs) rfl ha
  rw [List.map_set]
  exact this
theorem ji_rngG {q : Pos} {j : Int} {r : List Int} (hm : X.mg "range" = none) (ha : JE X B S e S1 (.val j)) (h : rngG j = some r) (hg : Gl X "range" := by rfl) (hst : starEach [e] X.env = (false, eval e X.env) :: starEach [] X.env := by rfl) (hs : starEach [e] X.env = [(false, eval e X.env)] := by rfl) : JI X B S tg (.Call (.Name "range" q) [e] [] pos) S1 [] (r.map Slot.val) (fun _ => True) := by
  unfold rngG at h
  by_cases c : -(4611686018427387904 : Int) ≤ j ∧ j < 4611686018427387904
  · rw [if_pos c] at h; cases h
    exact ji_range1 hm ha c hg hst hs
  · rw [if_neg c] at h; cases h
theorem je_minG {β : Type} [DecidableEq β] [DatumOrd β] {r : β} {xs : List β} {q : Pos} (hr : Room kk X.A) (hm : X.mg "min" = none) (ha : JE X B S e S1 x) (hl : Lv X.K B S1 x (xs.map Slot.val)) (h : minG xs = some r) (hc : X.calm = true := by rfl) (hd : Datum.depth β ≤ 60 := by decide) (hg : Gl X "min" := by rfl) (hst : starEach [e] X.env = (false, eval e X.env) :: starEach [] X.env := by rfl) : JE X B S (.Call (.Name "min" q) [e] [] pos) S1 (.val r) := by
  cases xs with
  | nil => cases h
  | cons t ts => cases h; exact je_minT hr hm ha hl hc hd hg hst
/-- the same state, less told of -/
theorem le_fgt {sl : List Slot} {cs : List (Addr × Cel)} (n : Nat) (f : Fgt S.sl sl) (hc : S.cs.take n = cs) : Le B S ⟨sl, cs⟩ := fun _ _ _ _ h => by
  have h2 := (h.fgt f).take n
  rw [show (⟨sl, S.cs⟩ : Stt).cs.take n = cs from hc] at h2
  exact h2
end
end J
namespace J
universe u w
open PySem L2
open PySem.W (Datum DatumOrd Holds HoldAll T3 T4 Tup)
/-! ### remove, index, count; tuples of one kind; calls by names -/
def rRemT : V → List V → Hp → VK → Prop := fun x xs H Q => ∃ (α : Type) (i1 : DecidableEq α) (i2 : Datum α) (t : α) (ts : List α) (y : V) (l : Addr) (vs : List V), x = .ref l ∧ xs = [y] ∧ Dq H y (Datum.toD (α := α) t) ∧ H l = some (.lst vs) ∧ DqAll H vs (ts.map (@Datum.toD α i1 i2)) ∧ @Datum.depth α i1 i2 ≤ 60 ∧ t ∈ ts ∧ Q .non (upd H l (.lst (vs.eraseIdx (ts.idxOf t))))
theorem mt_remT {X : Cx} (hu : X.A.units + 64 < cLine) : MtR X "list.remove" rRemT := by
  intro pins s σ H x xs v us Q I rx rxs h
  obtain ⟨α, i1, i2, t, ts, y, l, vs, rfl, rfl, h1, hH, ha, hd, hm, q⟩ := h
  cases rx
  obtain ⟨u, rfl, ru⟩ := vals1 rxs
  obtain ⟨z, its, n, r, hl, e⟩ := I.lstM hH
  obtain ⟨its2, r2, pl, hz2⟩ := I.list (.of (K := X.K) hH)
  have e2 : its2 = its := by
    obtain ⟨o, m, e3, _, _, e4⟩ := pl
    rw [e] at e3
    cases e3
    simp only at e4
    injection e4 with e5
    have := congrArg Array.toList e5
    simpa using this.symm
  subst e2
  have hlt : ts.idxOf t < ts.length := List.idxOf_lt_length_iff.mpr hm
  refine PySem.W.remove_list_datum (j := ts.idxOf t) pl.isList (by simpa using holdAll_of I ha r) (holds_of I h1 ru) (by omega) (by rw [List.getElem?_eq_getElem hlt, List.getElem_idxOf hlt]) (fun m hm2 e3 => ?_) (by simpa using Nat.le_trans (Nat.le_of_eq hl.symm) z) ?_
  · obtain ⟨h3, h4⟩ := List.getElem?_eq_some_iff.mp e3
    have h5 := List.not_of_lt_findIdx (p := (· == t)) (xs := ts) (show m < ts.findIdx (· == t) from hm2)
    rw [h4, beq_self_eq_true] at h5
    simp at h5
  · refine ⟨.non, _, I.lset (its' := its2.eraseIdx (ts.idxOf t)) (t' := s.toks) hH e ?_ (r.eraseIdx _) ?_, rfl, q⟩
    · show its2.toArray.eraseIdxIfInBounds _ = (its2.eraseIdx _).toArray
      rw [List.eraseIdxIfInBounds_toArray]
    · have := List.length_eraseIdx_le vs (ts.idxOf t)
      omega
def remG {α : Type} [DecidableEq α] (xs : List α) (t : α) : Option (List α) := if t ∈ xs then some (xs.eraseIdx (xs.idxOf t)) else none
section
variable {X : Cx} {B : Base} {S S1 S2 S3 : Stt} {x y z : Slot} {a b e o : Expr} {es : List Expr} {pos apos : Pos} {D : FE} {rest : List Stmt} {kk : Nat} {tg : Expr} {p : Addr}
theorem je_remG {α : Type} [DecidableEq α] [Datum α] {xs ys : List α} {t : α} (k : Nat) {ss0 : List Slot} (hr : Room kk X.A) (ho : JE X B S o S1 (.v (.ref p))) (hk0 : S1.cs[k]? = some (p, .lst ss0)) (he : JE X B S1 e S2 (.val t)) (hk : S2.cs[k]? = some (p, .lst (xs.map Slot.val))) (h : remG xs t = some ys) (hd : Datum.depth α ≤ 60 := by decide)
    (hbase : attributeBase o "remove" X.env (eval o X.env) = eval o X.env := by rfl) (hst : starEach [e] X.env = (false, eval e X.env) :: starEach [] X.env := by rfl)
    (hfew : ((backTo pos (starEach [e] X.env)).all (fun x => !x.1) && (backToKw pos (keywordEach [] X.env)).all (fun x => x.1.isSome) && decide (([e] : List Expr).length + ([] : List Keyword).length + (if ([] : List Keyword).isEmpty then 0 else 1) < 30)) = true := by rfl)
    (hline : (apos.endLine == pos.line) = true := by rfl) : JE X B S (.Call (.Attribute o "remove" apos) [e] [] pos) ⟨S2.sl, S2.cs.set k (p, .lst (ys.map Slot.val))⟩ (.v .non) := by
  unfold remG at h
  by_cases hm : t ∈ xs
  · rw [if_pos hm] at h
    cases h
    exact je_bm k PySem.F.slot_list_remove PySem.F.type_list_remove (mt_remT hr.units) ho hk0 (ja_cons he ja_nil hst) (fun T tv σ vs H Q hl' h q => by
      obtain ⟨v, rfl⟩ : ∃ v, vs = [v] := match vs, hl' with | [v], _ => ⟨v, rfl⟩
      obtain ⟨G, as, bs, z0⟩ := id h
      obtain ⟨a1, a2, rfl, g1, z1⟩ := z0.pop
      obtain rfl := g1.nil rfl
      have hv := sl_dq g1
      obtain ⟨oo, m, hpp, hc, _, hm1, _, reb⟩ := z1.cellW hk (by intro e; cases e)
      cases hc with
      | @lst _ vs0 _ hs =>
        obtain rfl := hs.plain (plain_map xs)
        have hdq := ss_dqAll hs
        have hlen := hs.len
        refine ⟨α, _, _, t, xs, v, p, vs0, rfl, rfl, dq_mono z1.sub hv, hpp, dqAll_mono z1.sub hdq, hd, hm, ?_⟩
        have hnew : CeI G (upd H p (.lst (vs0.eraseIdx (xs.idxOf t)))) (.lst ((xs.eraseIdx (xs.idxOf t)).map Slot.val)) (.lst (vs0.eraseIdx (xs.idxOf t))) [] := .lst (by
          rw [map_erase]
          exact SsI.of_get (by rw [List.length_eraseIdx, List.length_eraseIdx, hs.len]) fun i s u h1 h2 => by
            rw [List.getElem?_eraseIdx] at h1 h2
            split at h1
            · rw [if_pos (by assumption)] at h2
              obtain ⟨u', e1, e2⟩ := hs.get _ h1
              rw [h2] at e1
              cases e1
              exact e2.any'
            · rw [if_neg (by assumption)] at h2
              obtain ⟨u', e1, e2⟩ := hs.get _ h1
              rw [h2] at e1
              cases e1
              exact e2.any')
        obtain ⟨bs', z3⟩ := reb hnew (List.Sublist.refl _)
        exact q _ _ (z3.push .v)) hbase hfew hline hst
  · rw [if_neg hm] at h; cases h
theorem slds_vals {α : Type} [DecidableEq α] [Datum α] : ∀ xs : List α, SlDs (xs.map Slot.val) (xs.map Datum.toD)
  | [] => .nil
  | _ :: xs => .cons sld_val (slds_vals xs)
theorem je_tupv {α : Type} [DecidableEq α] [Datum α] {xs : List α} {k : Nat} (ha : JA X B S es S1 (xs.map Slot.val)) (hl : xs.length ≤ 1000 := by exact Nat.le_of_ble_eq_true rfl) : JE X B S (.Tuple es k pos) S1 (.val (Tup.mk xs)) :=
  je_tup ha (slds_vals xs) rfl (by rw [List.length_map]; exact hl)
end
/-! by names alone -/
section
end
section
variable {X : Cx} {B : Base} {S S1 S2 S3 : Stt} {x y z : Slot} {a b e o : Expr} {es : List Expr} {pos apos : Pos} {D : FE} {rest : List Stmt} {kk : Nat} {tg : Expr} {p : Addr} {kws : List Keyword}
/-- keywords' values, from the left -/
def JK (X : Cx) (B : Base) (S : Stt) (kws : List Keyword) (S' : Stt) (xs : List Slot) : Prop := ∀ T tv σ H (Q : List V → Hp → Prop), Sta B S T σ tv H → (∀ vs H', vs.length = xs.length → Sta B S' (xs ++ T) σ (vs ++ tv) H' → Q vs H') → ∃ t, PK X kws t ∧ t σ H Q
theorem jk_nil : JK X B S [] S [] := fun T tv σ H Q hs q => ⟨_, pk_nil, q [] H rfl hs⟩
def tkOf (X : Cx) (kws : List Keyword) : TA := fun σ H Q => ∃ t, PK X kws t ∧ t σ H Q
theorem pk0 : PK X kws (tkOf X kws) := ⟨fun pos pins s σ H Q I ⟨_, hp, h⟩ => hp.run pos pins s σ H Q I h⟩
theorem jk_cons {nm : Option Str} {kpos : Pos} {xs : List Slot} (h1 : JE X B S e S1 x) (h2 : JK X B S1 kws S2 xs) : JK X B S (⟨nm, e, kpos⟩ :: kws) S2 (x :: xs) := fun T tv σ H Q hs q =>
  ⟨_, pk_cons pe0 pk0, h1 _ _ _ _ _ hs fun v H1 g1 => h2 _ _ _ _ _ g1 fun vs H2 hl g2 => q (v :: vs) H2 (congrArg Nat.succ hl) (Sta.rot hl.symm g2)⟩
theorem pe_callN0 {CX : CXT} {k : Nat} {f : Addr} {fd : FuncData} {ps ks : List Str} {sp : Sp} {E : XK} {n : Str} {q : Pos} {g : List Value → List Value → List Value} {gV : List V → List V → List V} {tk : TA} (F : FnOk X.prog X.w X.K X.mg X.base CX k f fd ps sp) (hr : Room k X.A) (hg : Gl X n) (hm : X.mg n = some (.ref f)) (hk : PySem.W.keepIn X.K (.ref f) = true) (hb : KBn X.K fd ps 0 ks g gV) (hx : Passes CX X E)
    (hkw : PK X kws tk) (hall : (backToKw pos (keywordEach kws X.env)).all (·.1.isSome) = true := by rfl) (hks : (backToKw pos (keywordEach kws X.env)).filterMap (·.1) = ks := by rfl)
    (hdb : (n == ("__debug__" : Str)) = false := by decide)
    (hpl : ((backTo pos (starEach [] X.env)).any (·.1) || (backToKw pos (keywordEach kws X.env)).any (·.1.isNone)) = false := by rfl) :
    PE X (.Call (.Name n q) [] kws pos) (fun σ H Q => tk σ H fun zs H2 => zs.length = ks.length ∧ sp (gV [] zs) H2 Q E) := by
  refine ⟨fun pins s σ H Q I h => ?_⟩
  refine wpAny_Call_Name_kw (ld_glob I hg hm ?_ hdb)
  refine PySem.W.callWith_KW0 (h₀ := X.base) I.ok.mod.kin hk hall (thn (hkw.run pos pins s σ H _ I h) fun ws s2 ⟨zs, H2, I2, rz, l2, q2⟩ => ⟨I2.kIn, ?_⟩) hpl
  rw [hks]
  exact run_fnN F hr hb hx I2 .nil rz rfl l2 q2
end
theorem fn_okD {γ : Type} (f : FS γ) {P : Program} {w : World} {K : PySem.W.Frag} {mg : Str → Option Value} {base : Heap} {x qual : Str} {params : Arguments} {bd : List Stmt} {scope : Scope} {dvs : List V} {kwd : List (Str × V)} {fa : Addr} {fd : FuncData} {N ps : List Str} {lv : Nat} (F : FunD K x qual params bd scope dvs kwd fa fd) (sc : FnScope N ps scope) (hn : ∀ g, (f.args g).length = ps.length) (hp : ∀ g, ∀ s ∈ f.args g, s.plain = true)
    (body : ∀ (cdv : Value) (A : Around) (outer : List Env) (s : Shared) (H : Hp) (E : XK), Room lv (fctx P w K mg base N qual scope fa cdv A outer s H E).A → ∀ (B : Base) (g : γ), f.pre g → f.preG g B.G →
      JS (fctx P w K mg base N qual scope fa cdv A outer s H E) B ⟨f.args g ++ List.replicate (N.length - (f.args g).length) .any, f.cells g⟩ bd (fend B f g)) : FnOk P w K mg base CX0 (lv + 1) fa fd ps f.sp := by
  refine F.ok sc (fun vs H Q E h => ?_) (fun cdv A outer s H vs Q E hr h => ?_)
  · obtain ⟨g, B, _, _, hs, _⟩ := h
    obtain ⟨G, as, bs, z⟩ := hs
    rw [← hn g, z.tmp.len]
  · obtain ⟨g, B, hpre, hpg, hs, q⟩ := h
    refine ⟨tbOf (fctx P w K mg base N qual scope fa cdv A outer s H E) bd, PSs.nox pb0, ?_⟩
    refine tb_mono (body cdv A outer s H E hr B g hpre hpg [] [] _ H (hs.enter (hp g))) (fun σ H h => q _ _ h) (fun v H h => q _ _ h) (fun _ _ h => h.elim) (fun _ _ h => h.elim)
end J
namespace J
universe u w
open PySem L2
open PySem.W (Datum DatumOrd Holds HoldAll T3 T4 Tup)
/-! ### loops and joins whose states have addresses of their own (q) -/
/-- one of the states Sq -/
def toE {π : Type} (B : Base) (Sq : π → Stt) : FK := fun T tv σ H => ∃ q, Sta B (Sq q) T σ tv H
section
variable {X : Cx} {B : Base} {S S1 S2 S3 : Stt} {x y z : Slot} {a b e o : Expr} {es : List Expr} {pos apos : Pos} {D : FE} {rest : List Stmt} {kk : Nat} {tg : Expr}
theorem js_ifE {π : Type} {c : Expr} {th el : List Stmt} {p : Bool} {Sq : π → Stt} (hc : JT X B S c S1 p) (h1 : p = true → JS X B S1 th { D with nx := toE B Sq }) (h2 : p = false → JS X B S1 el { D with nx := toE B Sq }) (k : ∀ q, JS X B (Sq q) rest D) : JS X B S (.If c th el pos :: rest) D := by
  have mono : ∀ {st : List Stmt} {T tv σ H}, tbOf X st (({ D with nx := toE B Sq } : FE).at T tv) σ H → tbOf X st ((D.seq X rest).at T tv) σ H := fun {st T tv σ H} h => ⟨fun pins s I => thn (h.run pins s I) fun f s1 q => by
    cases f with
    | next =>
      obtain ⟨σ', H', I', w, q⟩ := q
      exact ⟨σ', H', I', k w _ _ _ _ q⟩
    | brk => exact q
    | cont => exact q
    | ret u => exact q⟩
  exact js_if hc (fun e => fun T tv σ H g => mono (h1 e T tv σ H g)) (fun e => fun T tv σ H g => mono (h2 e T tv σ H g))
theorem js_forE {π ι α : Type} [DecidableEq α] [Datum α] {xs : List α} {f : ι → α → Option ι} {Sf : π → ι → Stt} {Sb : π → ι → α → Stt} {s0 sE : ι} {tg iter : Expr} {body : List Stmt} {zs : List Slot} {ok : Stt → Prop} (hf : forM f xs s0 = some sE)
    (hi : JI X B S tg iter S1 zs (xs.map Slot.val) ok) (h0 : ∀ T tv σ H, Sta B S1 T σ tv H → ∃ q, Sta B (Sf q s0) T σ tv H) (hok : ∀ q s, ok (Sf q s))
    {ws : List Nat} (hg : ∀ q s x, JG X B (Sf q s) tg (.val x) (Sb q s x) ws) (hb : ∀ q s x s', x ∈ xs → f s x = some s' → JS X B (Sb q s x) body { nx := toE B fun q => Sf q s', rt := D.rt, ct := toE B fun q => Sf q s' })
    (k : ∀ q, JS X B (Sf q sE) rest D) (hc : X.calm = true := by rfl) (hp : PassesOwn (model X.prog X.w) X.A X.env X.xe := by exact PassesOwn.never) (hs : ∀ x, foldedSetIterable iter X.env x = pure x := by intro _; rfl) : JS X B S (.For tg iter body [] pos :: rest) D := by
  refine js_step (ps_for hp hc pi0 pg0 pb0 hs) fun T tv σ H h => hi _ _ _ _ _ h fun J zv H1 hl h1 wk => ?_
  refine ⟨fun i m σ H => m = xs.length - i ∧ i ≤ xs.length ∧ ∃ s, forM f (xs.drop i) s = some sE ∧ ∃ q, Sta B (Sf q s) (zs ++ T) σ (zv ++ tv) H, ⟨xs.length, by simp, Nat.zero_le _, s0, hf, h0 _ _ _ _ h1⟩, ?_⟩
  rintro i m σ H ⟨rfl, hle, s, hs', q, hS⟩
  by_cases hlt : i < xs.length
  · rw [List.drop_eq_getElem_cons hlt] at hs'
    refine bnd hs' fun s2 e1 e2 => .inr ?_
    have hx : (xs.map Slot.val)[i]? = some (Slot.val xs[i]) := by rw [List.getElem?_map, List.getElem?_eq_getElem hlt]; rfl
    obtain ⟨w1, w2⟩ := wk.go _ _ _ _ _ i _ (hok q s) hx hS
    refine ⟨w1, toE B (fun q => Sf q s2) (zs ++ T) (zv ++ tv), fun σ' H' g => ⟨xs.length - (i + 1), by omega, rfl, hlt, s2, e2, g⟩, fun v H' y => ?_⟩
    exact hg q s xs[i] _ _ _ _ _ _ (w2 v H' y) fun σ3 H3 _ g3 => ⟨fun pins st I => thn ((hb q s xs[i] s2 (List.getElem_mem hlt) e1 _ _ _ _ g3).run pins st I) fun fl s2 q => by
        cases fl with
        | next => exact q
        | cont => exact q
        | brk => obtain ⟨_, _, _, z⟩ := q; exact z.elim
        | ret u => exact q⟩
  · have e : i = xs.length := by omega
    subst e
    rw [List.drop_length] at hs'
    cases hs'
    have st := wk.stop _ _ _ _ _ (hok _ _) hS
    rw [List.length_map] at st
    exact .inl ⟨st, k q _ _ _ _ (Sta.drops hl hS)⟩
theorem js_forLE {π ι α ρ : Type} [DecidableEq α] [Datum α] {xs : List α} {f : ι → α → Option (Lp ι ρ)} {Sf : π → ι → Stt} {Sb : π → ι → α → Stt} {Rr : ρ → V → Hp → Prop} {s0 : ι} {sE : Sum ι ρ} {tg iter : Expr} {body : List Stmt} {zs : List Slot} {ok : Stt → Prop} (hf : forL f xs s0 = some sE)
    (hi : JI X B S tg iter S1 zs (xs.map Slot.val) ok) (h0 : ∀ T tv σ H, Sta B S1 T σ tv H → ∃ q, Sta B (Sf q s0) T σ tv H) (hok : ∀ q s, ok (Sf q s))
    {ws : List Nat} (hg : ∀ q s x, JG X B (Sf q s) tg (.val x) (Sb q s x) ws)
    (hb : ∀ q s x (o : Lp ι ρ), x ∈ xs → f s x = some o → JS X B (Sb q s x) body { nx := fun T tv σ H => ∃ s', o = .nx s' ∧ ∃ q, Sta B (Sf q s') T σ tv H, rt := fun v H => ∃ r, o = .rt r ∧ Rr r v H, ct := fun T tv σ H => ∃ s', o = .nx s' ∧ ∃ q, Sta B (Sf q s') T σ tv H, bk := fun T tv σ H => ∃ s', o = .bk s' ∧ ∃ q, Sta B (Sf q s') T σ tv H })
    (hr : ∀ r, sE = .inr r → ∀ v H, Rr r v H → D.rt v H) (k : ∀ s, sE = .inl s → ∀ q, JS X B (Sf q s) rest D) (hc : X.calm = true := by rfl) (hp : PassesOwn (model X.prog X.w) X.A X.env X.xe := by exact PassesOwn.never) (hs : ∀ x, foldedSetIterable iter X.env x = pure x := by intro _; rfl) : JS X B S (.For tg iter body [] pos :: rest) D := by
  refine js_step (ps_for hp hc pi0 pg0 pb0 hs) fun T tv σ H h => hi _ _ _ _ _ h fun J zv H1 hl h1 wk => ?_
  refine ⟨fun i m σ H => m = xs.length - i ∧ i ≤ xs.length ∧ ∃ s, forL f (xs.drop i) s = some sE ∧ ∃ q, Sta B (Sf q s) (zs ++ T) σ (zv ++ tv) H, ⟨xs.length, by simp, Nat.zero_le _, s0, hf, h0 _ _ _ _ h1⟩, ?_⟩
  rintro i m σ H ⟨rfl, hle, s, hs', q, hS⟩
  by_cases hlt : i < xs.length
  · rw [List.drop_eq_getElem_cons hlt] at hs'
    refine bnd hs' fun o e1 e2 => .inr ?_
    have hx : (xs.map Slot.val)[i]? = some (Slot.val xs[i]) := by rw [List.getElem?_map, List.getElem?_eq_getElem hlt]; rfl
    obtain ⟨w1, w2⟩ := wk.go _ _ _ _ _ i _ (hok q s) hx hS
    refine ⟨w1, fun σ' H' => ∃ s', o = .nx s' ∧ ∃ q, Sta B (Sf q s') (zs ++ T) σ' (zv ++ tv) H', ?_, fun v H' y => ?_⟩
    · rintro σ' H' ⟨s2, rfl, g⟩
      exact ⟨xs.length - (i + 1), by omega, rfl, hlt, s2, e2, g⟩
    · exact hg q s xs[i] _ _ _ _ _ _ (w2 v H' y) fun σ3 H3 _ g3 => ⟨fun pins st I => thn ((hb q s xs[i] o (List.getElem_mem hlt) e1 _ _ _ _ g3).run pins st I) fun fl s2 q => by
        cases fl with
        | next => exact q
        | cont => exact q
        | brk =>
          obtain ⟨σ', H', I', s', rfl, w, g⟩ := q
          cases e2
          exact ⟨σ', H', I', k s' rfl w _ _ _ _ (Sta.drops hl g)⟩
        | ret u =>
          obtain ⟨v', σ', H', I', rv, r, rfl, g⟩ := q
          cases e2
          exact ⟨v', σ', H', I', rv, hr r rfl _ _ g⟩⟩
  · have e : i = xs.length := by omega
    subst e
    rw [List.drop_length] at hs'
    cases hs'
    have st := wk.stop _ _ _ _ _ (hok _ _) hS
    rw [List.length_map] at st
    exact .inl ⟨st, k s rfl q _ _ _ _ (Sta.drops hl hS)⟩
theorem js_whileE {π ι : Type} {c : ι → Option Bool} {f : ι → Option ι} {Sf : π → ι → Stt} {s0 sE : ι} {n : Nat} {test : Expr} {body : List Stmt} (hw : whileM c f n s0 = some sE) (h0 : ∀ T tv σ H, Sta B S T σ tv H → ∃ q, Sta B (Sf q s0) T σ tv H)
    (hc : ∀ q s p, c s = some p → JT X B (Sf q s) test (Sf q s) p) (hb : ∀ q s s', c s = some true → f s = some s' → JS X B (Sf q s) body { nx := toE B fun q => Sf q s', rt := D.rt, ct := toE B fun q => Sf q s' })
    (k : ∀ q, JS X B (Sf q sE) rest D) (hp : PassesOwn (model X.prog X.w) X.A X.env X.xe := by exact PassesOwn.never) : JS X B S (.While test body [] pos :: rest) D := by
  refine js_step (ps_while hp pt0 pb0) fun T tv σ H h => ?_
  refine ⟨fun m σ H => ∃ s, whileM c f m s = some sE ∧ ∃ q, Sta B (Sf q s) T σ tv H, ⟨n, s0, hw, h0 _ _ _ _ h⟩, ?_⟩
  rintro m σ H ⟨s, hm, q, hs⟩
  cases m with
  | zero => cases hm
  | succ m =>
    refine bnd hm fun p hp1 hm1 => ?_
    refine hc q s p hp1 _ _ _ _ _ hs fun H1 h1 => ?_
    cases p with
    | true =>
      rw [if_pos rfl] at hm1
      refine bnd hm1 fun s' hs' hm2 => ?_
      exact iteT ⟨toE B (fun q => Sf q s') T tv, fun σ' H' g => ⟨m, Nat.lt_succ_self m, s', hm2, g⟩, ⟨fun pins s1 I => thn ((hb q s s' hp1 hs' T tv σ H1 h1).run pins s1 I) fun fl s2 q => by
        cases fl with
        | next => exact q
        | cont => exact q
        | brk => obtain ⟨_, _, _, z⟩ := q; exact z.elim
        | ret u => exact q⟩⟩
    | false =>
      rw [if_neg (by decide)] at hm1
      cases hm1
      exact iteF (k q T tv σ H1 h1)
/-- cell j goes to place k, what was there is dropped -/
theorem CsI.drop1 {G H : Hp} : ∀ {cs : List (Addr × Cel)} {bs : List Addr} (k : Nat), CsI G H cs bs → ∃ p0 ds, CsI G H (cs.set k (p0, .gone)) ds ∧ ds.Sublist bs
  | [], _, k, h => ⟨0, _, by simpa using h, List.Sublist.refl _⟩
  | (p, c) :: cs, bs, 0, h => by
    cases h with
    | gone h => exact ⟨p, _, .gone h, List.Sublist.refl _⟩
    | @cons _ _ o as _ b2 hp hc h => exact ⟨p, b2, .gone h, ((List.sublist_append_right as b2).trans (List.sublist_cons_self p _))⟩
  | (p, c) :: cs, bs, k + 1, h => by
    cases h with
    | gone h =>
      obtain ⟨p0, ds, h1, h2⟩ := CsI.drop1 k h
      exact ⟨p0, ds, .gone h1, h2⟩
    | @cons _ _ o as _ b2 hp hc h =>
      obtain ⟨p0, ds, h1, h2⟩ := CsI.drop1 k h
      exact ⟨p0, _, .cons hp hc h1, ((List.Sublist.refl as).append h2).cons_cons p⟩
theorem Sta.mv {T : List Slot} {σ : St} {tv : List V} {H : Hp} {p q : Addr} {c d : Cel} (h : Sta B S T σ tv H) (k j : Nat) (hk : S.cs[k]? = some (p, d)) (hj : S.cs[j]? = some (q, c)) (hg : c ≠ .gone) (hkj : k ≠ j) : Sta B ⟨S.sl, (S.cs.set k (q, c)).set j (q, .gone)⟩ T σ tv H := by
  obtain ⟨G, as, bs, z1, z2, z3, z4, z5, z6, z7, z8, z9⟩ := h
  obtain ⟨l, o, m, r, rfl, hq, hc, reb⟩ := z2.at j hj hg
  have g1 := (reb (Ex.refl G) fun _ _ => rfl).2 q
  obtain ⟨p0, ds, g2, sub⟩ := CsI.drop1 k g1
  have hkl : k < S.cs.length := (List.getElem?_eq_some_iff.mp hk).1
  obtain ⟨b, g3, pm⟩ := CsI.put1 (p := q) (q := p0) k g2 (by rw [List.getElem?_set_self (by rw [List.length_set]; exact hkl)]) hq hc
  rw [List.set_set, List.set_comm _ _ (Ne.symm hkj)] at g3
  have pm0 : (l ++ (q :: m) ++ r).Perm ((q :: m) ++ (l ++ r)) := by
    rw [← List.append_assoc]
    exact List.Perm.append_right _ List.perm_append_comm
  have p1 : (as ++ b).Perm (as ++ ((q :: m) ++ ds)) := List.Perm.append_left as pm
  have s1 : (as ++ ((q :: m) ++ ds)).Sublist (as ++ ((q :: m) ++ (l ++ r))) := (List.Sublist.refl as).append ((List.Sublist.refl (q :: m)).append sub)
  have p2 : (as ++ (l ++ (q :: m) ++ r)).Perm (as ++ ((q :: m) ++ (l ++ r))) := List.Perm.append_left as pm0
  exact ⟨G, as, b, z1, g3, z3, p1.nodup_iff.mpr (s1.nodup (p2.nodup_iff.mp z4)), fun a ha => z5 a (p2.mem_iff.mpr (s1.subset (p1.mem_iff.mp ha))), z6, z7, z8, z9⟩
theorem js_mv (k j : Nat) {p q : Addr} {c d : Cel} (hk : S.cs[k]? = some (p, d)) (hj : S.cs[j]? = some (q, c)) (h : JS X B ⟨S.sl, (S.cs.set k (q, c)).set j (q, .gone)⟩ rest D) (hg : c ≠ .gone := by nofun) (hkj : k ≠ j := by decide) : JS X B S rest D := fun T tv σ H hs => h T tv σ H (hs.mv k j hk hj hg hkj)
/-- whole numbers and None where either may stand -/
theorem je_some {α : Type} [DecidableEq α] [Datum α] [PySem.W.SomeDatum α] {t : α} (h : JE X B S e S1 (.val t)) : JE X B S e S1 (.val (some t)) := je_as h fun h => by
  cases h with
  | val h => exact .val (show Dq _ _ (Datum.toD (some t)) from h)
theorem je_nonO {α : Type} [DecidableEq α] [Datum α] [PySem.W.SomeDatum α] (h : JE X B S e S1 (.v .non)) : JE X B S e S1 (.val (none : Option α)) := je_as h fun h => by
  cases h with
  | v => exact .val (show Dq _ _ (Datum.toD (none : Option α)) from .non)
theorem je_get {α : Type} [DecidableEq α] [Datum α] [PySem.W.SomeDatum α] {r : Option α} {t : α} (h : JE X B S e S1 (.val r)) (hr : r = some t) : JE X B S e S1 (.val t) := je_as h fun h => by
  subst hr
  cases h with
  | val h => exact .val (show Dq _ _ (Datum.toD t) from h)
theorem je_mulR {i j : Int} (ha : JE X B S a S1 (.val i)) (hb : JE X B S1 b S2 (.val j)) (hc : -(2 ^ 64) < j ∧ j < 2 ^ 64) : JE X B S (.BinOp a .Mult b pos) S2 (.val (i * j)) := je_mul ha hb (.inr hc)
theorem je_mulL {i j : Int} (ha : JE X B S a S1 (.val i)) (hb : JE X B S1 b S2 (.val j)) (hc : -(2 ^ 64) < i ∧ i < 2 ^ 64) : JE X B S (.BinOp a .Mult b pos) S2 (.val (i * j)) := je_mul ha hb (.inl hc)
theorem je_lstv {α : Type} [DecidableEq α] [Datum α] {xs : List α} (ha : JA X B S es S1 (xs.map Slot.val)) (hl : xs.length ≤ 1000 := by exact Nat.le_of_ble_eq_true rfl) : JE X B S (.List es pos) S1 (.own (.lst (xs.map Slot.val))) := je_lst ha (by rw [List.length_map]; exact hl)
theorem je_let {α : Type} [DecidableEq α] [Datum α] {p q : α} (h : JE X B S e S1 (.val p)) (k : some p = some q) : JE X B S e S1 (.val q) := Option.some.inj k ▸ h
theorem sl_ownA {G H : Hp} {q : Addr} {c : Cel} {v : V} {as : List Addr} (h : SlI G H (.ownA q c) v as) : v = .ref q ∧ SlI G H (.own c) v as := by
  cases h with
  | ownA hp hc => exact ⟨rfl, .own hp hc⟩
theorem Sta.ownA {T : List Slot} {σ : St} {tv : List V} {H : Hp} {v : V} {q : Addr} {c : Cel} (h : Sta B S (.ownA q c :: T) σ (v :: tv) H) : v = .ref q ∧ Sta B S (.own c :: T) σ (v :: tv) H := by
  obtain ⟨G, as, bs, z⟩ := h
  have zt := z.tmp
  cases zt with
  | cons h1 h2 => exact ⟨(sl_ownA h1).1, G, _, bs, .cons (sl_ownA h1).2 h2, z.cel, z.slo, z.nod, z.fre, z.gro, z.new, z.sub, z.frm⟩
/-- a body's end without return -/
theorem js_fin {γ : Type} {f : FS γ} {g : γ} (n : Nat) (hc : S.cs.take n = f.cells' g) (hx : f.res g = .v .non) : JS X B S [] (fend B f g) := js_nil fun T tv σ H hs => by
  have h := Out.take n (Sta.only (hs.push (x := .v .non) fun _ _ => .v))
  show Out B (f.res g) (f.cells' g) .non H
  rw [hx, ← hc]
  exact h
theorem js_loopEnd {π ι : Type} {Sq : π → ι → Stt} {s' : ι} (n : Nat) (q : π) (f : Fgt S.sl (Sq q s').sl) (hc : S.cs.take n = (Sq q s').cs) (hD : D.nx = toE B fun q => Sq q s') : JS X B S [] D := js_nil fun T tv σ H h => by
  show D.nx T tv σ H
  rw [hD]
  exact ⟨q, le_fgt (sl := (Sq q s').sl) (cs := (Sq q s').cs) n f hc _ _ _ _ h⟩
end
def Slot.isAny : Option Slot → Bool
  | some .any => true
  | none => true
  | _ => false
theorem any_at {sl : List Slot} {vs : List Nat} (h : (vs.all fun i => Slot.isAny sl[i]?) = true) : AnyAt sl vs := fun i hi s hs => by
  have := List.all_eq_true.mp h i hi
  rw [hs] at this
  cases s with
  | any => rfl
  | v w => cases this
  | val t => cases this
  | own c => cases this
  | ownA _ c => cases this
  | otup _ => cases this
  | say φ => cases this
theorem sql_mono {K : PySem.W.Frag} {G G' : Hp} {a : Addr} {xs : List V} (h : SqL K G a xs) (e : Ex G G') : SqL K G' a xs := by
  rcases h with (h | ⟨o, h⟩) | h
  · exact .inl (.inl (e _ _ h))
  · exact .inl (.inr ⟨o, e _ _ h⟩)
  · exact .inr h
theorem inJE {Y : Cx} {B : Base} {S S' : Stt} {e : Expr} {x : Slot} {k : Nat} (hr : Room k Y.A) (hN : Y.N.Nodup) (f : Room k Y.A → Y.N.Nodup → JE Y B S e S' x) : JE Y B S e S' x := f hr hN
theorem inJTs {Y : Cx} {B : Base} {S S' : Stt} {es : List Expr} {p : Bool} {k : Nat} (hr : Room k Y.A) (hN : Y.N.Nodup) (f : Room k Y.A → Y.N.Nodup → JTs Y B S es S' p) : JTs Y B S es S' p := f hr hN
theorem inJG {Y : Cx} {B : Base} {S S' : Stt} {tg : Expr} {x : Slot} {ws : List Nat} (hN : Y.N.Nodup) (f : Y.N.Nodup → JG Y B S tg x S' ws) : JG Y B S tg x S' ws := f hN
end J
namespace J
universe u w
open PySem L2
open PySem.W (Datum DatumOrd Holds HoldAll T3 T4 Tup)
/-! ### lists of parts of their own kinds; insert, clear, reverse of data -/
theorem allp {ss : List Slot} (h : ss.all (·.plain) = true) : ∀ s ∈ ss, s.plain = true := List.all_eq_true.mp h
section
variable {X : Cx} {B : Base} {S S1 S2 S3 : Stt} {x y z : Slot} {a b e o : Expr} {es : List Expr} {pos apos : Pos} {D : FE} {rest : List Stmt} {kk : Nat} {tg : Expr} {p : Addr}
/-- bag[j] = e, a written place of a list of parts -/
theorem jg_het {ss : List Slot} (k j : Nat) {i : Int} {ix : Expr} (ho : JE X B S o S1 (.v (.ref p))) (hi : JE X B S1 ix S2 (.val i)) (hk : S2.cs[k]? = some (p, .lst ss)) (hj : ixp ss.length i = some j := by rfl) (hp : ss.all (·.plain) = true := by rfl) (hy : y.plain = true := by rfl)
    (ha : ∀ v, assign (.Subscript o ix pos) X.env v = (do
      let ov ← holding [v] (eval o X.env)
      let iv ← holding [v, ov] (eval ix X.env)
      standAt pos
      holding [v, ov, iv] (setItem ov iv v)
      release [v, ov, iv] []) := by intro _; rfl) : JG X B S (.Subscript o ix pos) y ⟨S2.sl, S2.cs.set k (p, .lst (ss.set j y))⟩ [] := jg_sub k ho hi hk hj (allp hp) hy ha
end
end J
namespace J
open PySem PySem.Spec PyProof.Rows L2
open PySem.W (Datum)
/-! ### set(xs) of whole numbers, however many; len and sorted of it -/
section
end
/-! what is told: the numbers, each once, rising -/
/-! ### as expressions -/
section
end
/-! typed -/
section
end
end J
namespace J
universe u w
open PySem L2
open PySem.W (Datum DatumOrd Holds HoldAll T3 T4 Tup)
/-! ### a tuple's part by a written number; tuple(xs) -/
theorem dqAll_get {G : Hp} : ∀ {vs : List V} {ds : List PyData} (j : Nat) {d : PyData}, DqAll G vs ds → ds[j]? = some d → ∃ u, vs[j]? = some u ∧ Dq G u d
  | _, _, _, _, .nil, h => by simp at h
  | _, _, 0, _, .cons h1 _, h => by cases h; exact ⟨_, rfl, h1⟩
  | _, _, j + 1, _, .cons _ h2, h => dqAll_get j h2 h
theorem dqAll_len {G : Hp} : ∀ {vs : List V} {ds : List PyData}, DqAll G vs ds → vs.length = ds.length
  | _, _, .nil => rfl
  | _, _, .cons _ h => congrArg Nat.succ (dqAll_len h)
section
variable {X : Cx} {B : Base} {S S1 S2 S3 : Stt} {x y z : Slot} {a b e o : Expr} {es : List Expr} {pos apos : Pos} {kk : Nat}
theorem je_tpix {α β : Type} [DecidableEq α] [Datum α] [DecidableEq β] [Datum β] {t : α} {r : β} {ds : List PyData} {i : Int} (ha : JE X B S a S1 (.val t)) (hb : JE X B S1 b S2 (.val i)) (ht : Datum.toD t = .tuple ds) (hi : gx ds i = some (Datum.toD r)) (hs : PlainIx b := by exact fun _ _ => rfl) : JE X B S (.Subscript a b pos) S2 (.val r) := fun T tv σ H Q h q =>
  pe1 (pe_ix ix_tup pe0 pe0 hs) (ha _ _ _ _ _ h fun v H1 h1 => hb _ _ _ _ _ h1 fun u H2 h2 => by
    have e := h2.int
    subst e
    obtain ⟨G, as, bs, z⟩ := h2.drop
    obtain ⟨a1, a2, rfl, g1, z'⟩ := z.pop
    have hx := sl_dq g1
    rw [ht] at hx
    cases hx with
    | @tup l vs0 _ hH hd =>
      rw [gx_ixp] at hi
      cases hj : ixp ds.length i with
      | none => rw [hj] at hi; cases hi
      | some j =>
        rw [hj] at hi
        obtain ⟨w, hw, dw⟩ := dqAll_get j hd hi
        refine ⟨l, vs0, i, w, rfl, rfl, .inl (.inl (z'.sub _ _ hH)), ?_, q w H2 (z'.push (.val dw))⟩
        rw [atI_gx, gx_ixp, dqAll_len hd, hj]
        exact hw)
theorem dq_tup {α : Type} [DecidableEq α] [Datum α] {G : Hp} {v : V} {t : Tup α} (h : Dq G v (Datum.toD t)) : ∃ l vs, v = .ref l ∧ G l = some (.tup vs) ∧ SsI G G (t.items.map Slot.val) vs [] := by
  cases (show Dq G v (.tuple (t.items.map Datum.toD)) from h) with
  | @tup l vs _ hH hd => exact ⟨l, vs, rfl, hH, dqAll_ss hd⟩
/-- for x in t, a tuple of one kind -/
theorem ji_tupv {α : Type} [DecidableEq α] [Datum α] {t : Tup α} {tg : Expr} (ha : JE X B S e S1 (.val t)) : JI X B S tg e S1 [.val t] (t.items.map Slot.val) (fun _ => True) := fun T tv σ H R hs q =>
  pi1 (pi_tup pe0) (ha _ _ _ _ _ hs fun v H1 h1 => by
    obtain ⟨G, as, bs, z⟩ := id h1
    obtain ⟨a1, a2, rfl, g1, z1⟩ := z.pop
    obtain ⟨l, vs, rfl, hG, hss⟩ := dq_tup (sl_dq g1)
    have again : ∀ {S : Stt} {T : List Slot} {σ : L2.St} {tv : List V} {H : Hp}, Sta B S ([.val t] ++ T) σ ([.ref l] ++ tv) H → ∃ ws, SqT X.K H l ws ∧ (t.items.map Slot.val).length = ws.length ∧ ∀ (i : Nat) s, (t.items.map Slot.val)[i]? = some s → ∃ u, ws[i]? = some u ∧ Sta B S (s :: ([.val t] ++ T)) σ (u :: ([.ref l] ++ tv)) H := fun {S T σ tv H} h => by
      obtain ⟨G, as, bs, z⟩ := id h
      obtain ⟨a1, a2, rfl, g1, z1⟩ := z.pop
      obtain ⟨l', ws, e, hG, hss⟩ := dq_tup (sl_dq g1)
      cases e
      refine ⟨ws, .inl (.inl (z1.sub _ _ hG)), hss.len, fun i s hi => ?_⟩
      obtain ⟨u, hu, su⟩ := hss.get i hi
      exact ⟨u, hu, z.push su.any'⟩
    refine ⟨l, rfl, ⟨vs, .inl (.inl (z1.sub _ _ hG))⟩, q (Itt X.K l) [.ref l] H1 rfl h1 ⟨fun S T σ tv H i s _ hi h => ?_, fun S T σ tv H _ h => ?_⟩⟩
    · obtain ⟨ws, hr, _, f⟩ := again h
      obtain ⟨u, hu, hS⟩ := f i s hi
      refine ⟨⟨ws, u, hr, hu⟩, fun v H' hy => ?_⟩
      obtain ⟨rfl, hy⟩ := hy
      have e := hy ws hr
      rw [hu] at e
      cases e
      exact hS
    · obtain ⟨ws, hr, hl, _⟩ := again h
      exact ⟨ws, hr, Nat.le_of_eq hl.symm⟩)
end
theorem bndE {α β : Type} {m : Option α} {f : α → Option β} {r : β} (h : m.bind f = some r) : ∃ x, m = some x ∧ f x = some r := by
  cases m with
  | none => cases h
  | some x => exact ⟨x, rfl, h⟩
end J
namespace J
open PySem PySem.Spec PyProof.Rows L2
open PySem.W (Datum Tup)
section
variable {X : Cx} {B : Base} {S S1 S2 S3 : Stt} {x y z : Slot} {a b e o : Expr} {es : List Expr} {pos apos : Pos} {D : FE} {rest : List Stmt} {kk : Nat} {tg : Expr} {p : Addr}
/-! ### xs * n -/
/-! ### comprehensions over items of several kinds -/
def e2 {α β : Type} [DecidableEq α] [Datum α] [DecidableEq β] [Datum β] : Sum α β → Slot
  | .inl x => .val x
  | .inr x => .val x
end
end J
namespace J
open PySem PySem.Spec PyProof.Rows L2
open PySem.W (Datum Tup)
/-! ### dicts by whole numbers -/
def dget {β : Type} (m : List (Int × β)) (k : Int) : Option β := (m.find? fun q => decide (q.1 = k)).map (·.2)
def dhas {β : Type} (m : List (Int × β)) (k : Int) : Bool := (dget m k).isSome
def dput {β : Type} (m : List (Int × β)) (k : Int) (v : β) : List (Int × β) := if (m.any fun q => decide (q.1 = k)) = true then m.map (fun q => if q.1 = k then (q.1, v) else q) else m ++ [(k, v)]
def dputG {β : Type} (m : List (Int × β)) (k : Int) (v : β) : Option (List (Int × β)) := if m.length < 16777216 then some (dput m k v) else none
section
end
section
variable {X : Cx} {B : Base} {S S1 S2 S3 : Stt} {x y z : Slot} {a b e o : Expr} {es : List Expr} {pos apos : Pos} {D : FE} {rest : List Stmt} {kk : Nat} {tg : Expr} {p : Addr} {β : Type} [DecidableEq β] [Datum β] {m : List (Int × β)} {key : Int}
theorem small16 {n : Nat} (h : n < 16777216) : n < sizeLine := by rw [sizeLine_eq]; omega
end
/-! ### xs[::-1]; isinstance of data -/
section
variable {X : Cx} {B : Base} {S S1 S2 S3 : Stt} {x y z : Slot} {a b e o : Expr} {es : List Expr} {pos apos : Pos} {D : FE} {rest : List Stmt} {kk : Nat}
theorem je_bty {n : Str} {id : String} (hm : X.mg n = none) (hv : bootBuiltins n = some (.type id)) (hg : Gl X n := by rfl) (hn : n ≠ "__name__" := by decide) (hd : (n == ("__debug__" : Str)) = false := by decide) : JE X B S (.Name n pos) S (.v (.ty id)) := fun T tv σ H Q h q =>
  pe1 (pe_bltn hg hm hv (show RelV (.ty id) (.type id) from rfl) hn hd) (q _ _ (h.push fun _ _ => .v))
end
end J
namespace J
open PySem PySem.Spec PyProof.Rows L2
open PySem.W (Datum Tup)
def ddrop {β : Type} (m : List (Int × β)) (k : Int) : List (Int × β) := m.filter fun q => decide (q.1 ≠ k)
section
end
section
variable {X : Cx} {B : Base} {S S1 S2 S3 : Stt} {x y z : Slot} {a b c e o : Expr} {es : List Expr} {pos apos cpos : Pos} {D : FE} {rest : List Stmt} {kk : Nat} {tg : Expr} {p : Addr} {β : Type} [DecidableEq β] [Datum β] {m : List (Int × β)} {key : Int}
/-! ### a dict that is walked -/
def Stt.frz (S : Stt) (k : Nat) (p : Addr) (ob : Obj) (gs : List (Key × V)) (ss : List Slot) : Stt := ⟨S.sl, S.cs.set k (p, .fdk ob gs ss)⟩
theorem set_back {α : Type _} {l : List α} {k : Nat} {a b : α} (h : l[k]? = some b) : (l.set k a).set k b = l := by
  rw [List.set_set]
  apply List.ext_getElem?
  intro n
  rw [List.getElem?_set]
  by_cases e : k = n
  · subst e
    obtain ⟨hl, _⟩ := List.getElem?_eq_some_iff.mp h
    rw [if_pos rfl, if_pos hl, h]
  · rw [if_neg e]
/-! ### sorted -/
def leP (a b : Int × Int) : Bool := decide (a.1 < b.1 ∨ (a.1 = b.1 ∧ a.2 ≤ b.2))
def sortP (xs : List (Int × Int)) : List (Int × Int) := xs.mergeSort leP
theorem dq_pr {G H : Hp} (hs : Ex G H) {v : V} {t : Int × Int} (h : Dq G v (Datum.toD t)) : ∃ l, v = .ref l ∧ H l = some (.tup [.int t.1, .int t.2]) := by
  cases (show Dq G v (.tuple [Datum.toD t.1, Datum.toD t.2]) from h) with
  | @tup l vs _ hH hd =>
    cases hd with
    | cons d1 hd => cases hd with
      | cons d2 hd => cases hd with
        | nil =>
          cases (show Dq G _ (.int t.1) from d1)
          cases (show Dq G _ (.int t.2) from d2)
          exact ⟨l, rfl, hs _ _ hH⟩
/-! ### list(range(a, b, c)) -/
def rgs (lo c : Int) (n : Nat) : List Int := (List.range n).map fun i : Nat => lo + (i : Int) * c
def rngG3 (i j c : Int) : Option (List Int) := if ((0 ≤ i ∧ i ≤ 16777216) ∧ 0 ≤ j ∧ j ≤ 16777216) ∧ 0 < c ∧ c ≤ 16777216 then some (rgs i c (if i < j then ((j - i - 1) / c + 1).toNat else 0)) else none
theorem rgC_ok {i j c : Int} (h : ((0 ≤ i ∧ i ≤ 16777216) ∧ 0 ≤ j ∧ j ≤ 16777216) ∧ 0 < c ∧ c ≤ 16777216) : RgC i j c (if i < j then ((j - i - 1) / c + 1).toNat else 0) ∧ (if i < j then ((j - i - 1) / c + 1).toNat else 0) ≤ 2 ^ 24 := by
  have e : Builtin.Range.rangeSize i j c = ((if i < j then ((j - i - 1) / c + 1).toNat else 0 : Nat) : Int) := by
    unfold Builtin.Range.rangeSize
    rw [if_pos h.2.1]
    split
    · have := Int.ediv_nonneg (a := j - i - 1) (b := c) (by omega) (by omega)
      omega
    · rfl
  have hle : (if i < j then ((j - i - 1) / c + 1).toNat else 0) ≤ 16777216 := by
    split
    · have h1 := Int.ediv_le_self c (show (0 : Int) ≤ j - i - 1 by omega)
      omega
    · omega
  refine ⟨⟨by omega, by omega, ?_, e⟩, by omega⟩
  unfold Builtin.Range.small
  rw [e]
  simp only [Builtin.Range.rangeFitsLong, Bool.and_eq_true, Bool.or_eq_true, decide_eq_true_eq, beq_iff_eq, show c > 0 from h.2.1, if_true]
  omega
/-! ### isinstance -/
/-- whatever stands for x, its type answers r -/
def Ty (K : PySem.W.Frag) (B : Base) (S : Stt) (x : Slot) (ans : String → Option Bool) : Prop := ∀ {T : List Slot} {σ : L2.St} {v : V} {tv : List V} {H G : Hp} {as bs : List Addr}, St0 B S (x :: T) σ (v :: tv) H G as bs → ∃ t : String, TyX K H v (.type t) ∧ ∀ id r, ans id = some r → kitB t id = some r
theorem ty_of {K : PySem.W.Frag} {t : String} {ans : String → Option Bool} (h : ∀ {T : List Slot} {σ : L2.St} {v : V} {tv : List V} {H G : Hp} {as bs : List Addr}, St0 B S (x :: T) σ (v :: tv) H G as bs → TyX K H v (.type t)) (ha : ∀ id r, ans id = some r → kitB t id = some r) : Ty K B S x ans := fun z => ⟨t, h z, ha⟩
/-- the answers of a type to the ones that are asked for -/
def ansOf (t : String) (id : String) : Option Bool := if id = "bool" ∨ id = "int" ∨ id = "str" ∨ id = "list" ∨ id = "tuple" then kitB t id else none
theorem ansOf_ok (t : String) : ∀ id r, ansOf t id = some r → kitB t id = some r := fun id r h => by
  unfold ansOf at h
  split at h
  · exact h
  · cases h
theorem ty_lst {K : PySem.W.Frag} {ss : List Slot} (h : Lh B S x ss) : Ty K B S x (ansOf "list") := ty_of (t := "list") (fun z => by
  obtain ⟨p, vs, rfl, hp, _⟩ := h z
  exact .base (.lst hp)) (ansOf_ok _)
theorem je_isiG {q : Pos} {id : String} {r : Bool} {ans : String → Option Bool} (hm : X.mg "isinstance" = none) (ha : JE X B S a S1 x) (hb : JE X B S1 b S2 (.v (.ty id))) (hx : Ty X.K B S2 x ans) (hr : ans id = some r := by decide +kernel) (hg : Gl X "isinstance" := by rfl) (hst : starEach [a, b] X.env = (false, eval a X.env) :: starEach [b] X.env := by rfl) (hst2 : starEach [b] X.env = (false, eval b X.env) :: starEach [] X.env := by rfl) (hpl : (backTo pos (starEach [b] X.env)).any (·.1) = false := by rfl) : JE X B S (.Call (.Name "isinstance" q) [a, b] [] pos) S2 (.val r) :=
  je_callB call_isi hm PyProof.Rows.boot_isinstance (ja_cons ha (ja_cons hb ja_nil hst2) hst) (oc2 fun T tv σ v u H Q hs q => by
    have e2 := hs.drop.exact
    subst e2
    have ty : ∃ t : String, TyX X.K H v (.type t) ∧ ∀ id r, ans id = some r → kitB t id = some r := by
      obtain ⟨G, as, bs, z⟩ := (show Sta B S2 (x :: .v (.ty id) :: T) σ (v :: .ty id :: tv) H from hs)
      exact hx z
    obtain ⟨t, h1, h2⟩ := ty
    exact ⟨_, _, _, _, r, rfl, .ty id, h1, kit_ty (h2 id r hr), q _ _ (hs.drop.drop.push fun _ _ => sl_bl _)⟩) hg (by decide) (by decide) hst hpl
end
end J
namespace J
open PySem PySem.Spec PyProof.Rows L2
open PySem.W (Datum Tup)
/-! ### objects of classes: fields -/
def putS (f : Str) (y : Slot) : List (Str × Slot) → List (Str × Slot)
  | [] => [(f, y)]
  | (g, x) :: r => if g = f then (g, y) :: r else (g, x) :: putS f y r
section
variable {G H : Hp}
theorem fld_rel {f : Str} {s : Slot} (hp : s.plain = true) : ∀ {fs : List (Str × Slot)} {gs : List (Str × V)} {as : List Addr}, fs.map (·.1) = gs.map (·.1) → SsI G H (fs.map (·.2)) (gs.map (·.2)) as → fs.lookup f = some s → ∃ u, gs.lookup f = some u ∧ SlI G H s u []
  | [], [], _, _, _, h => by cases h
  | [], _ :: _, _, h, _, _ => by simp at h
  | _ :: _, [], _, h, _, _ => by simp at h
  | (g, x) :: fs, (g', v) :: gs, as, h, hs, hl => by
    have h1 : g = g' := (List.cons.inj h).1
    subst h1
    cases hs with
    | cons s1 hs =>
      rw [List.lookup_cons] at hl ⊢
      cases e : f == g with
      | true =>
        rw [e] at hl
        cases hl
        obtain rfl := SlI.nil s1 hp
        exact ⟨v, rfl, s1⟩
      | false =>
        rw [e] at hl
        exact fld_rel hp (List.cons.inj h).2 hs hl
theorem fld_none {f : Str} : ∀ {fs : List (Str × Slot)} {gs : List (Str × V)}, fs.map (·.1) = gs.map (·.1) → fs.lookup f = none → gs.lookup f = none
  | [], [], _, _ => rfl
  | [], _ :: _, h, _ => by simp at h
  | _ :: _, [], h, _ => by simp at h
  | (g, x) :: fs, (g', v) :: gs, h, hl => by
    have h1 : g = g' := (List.cons.inj h).1
    subst h1
    rw [List.lookup_cons] at hl ⊢
    cases e : f == g with
    | true => rw [e] at hl; cases hl
    | false =>
      rw [e] at hl
      exact fld_none (List.cons.inj h).2 hl
theorem put_fst (f : Str) (y : Slot) (v : V) : ∀ {fs : List (Str × Slot)} {gs : List (Str × V)}, fs.map (·.1) = gs.map (·.1) → (putS f y fs).map (·.1) = (putF f v gs).map (·.1)
  | [], [], _ => rfl
  | [], _ :: _, h => by simp at h
  | _ :: _, [], h => by simp at h
  | (g, x) :: fs, (g', w) :: gs, h => by
    have h1 : g = g' := (List.cons.inj h).1
    subst h1
    unfold putS putF
    by_cases e : g = f
    · rw [if_pos e, if_pos e]
      exact congrArg (List.cons g) (List.cons.inj h).2
    · rw [if_neg e, if_neg e]
      exact congrArg (List.cons g) (put_fst f y v (List.cons.inj h).2)
theorem put_snd (f : Str) {y : Slot} {v : V} (hy : SlI G H y v []) : ∀ {fs : List (Str × Slot)} {gs : List (Str × V)} {as : List Addr}, fs.map (·.1) = gs.map (·.1) → SsI G H (fs.map (·.2)) (gs.map (·.2)) as → ∃ as', as'.Sublist as ∧ SsI G H ((putS f y fs).map (·.2)) ((putF f v gs).map (·.2)) as'
  | [], [], as, _, h => ⟨[], List.nil_sublist _, .cons (as := []) hy .nil⟩
  | [], _ :: _, _, h, _ => by simp at h
  | _ :: _, [], _, h, _ => by simp at h
  | (g, x) :: fs, (g', w) :: gs, as, h, hs => by
    have h1 : g = g' := (List.cons.inj h).1
    subst h1
    cases hs with
    | @cons _ _ a1 _ _ a2 s1 hs =>
      unfold putS putF
      by_cases e : g = f
      · rw [if_pos e, if_pos e]
        exact ⟨a2, List.sublist_append_right _ _, .cons (as := []) hy hs⟩
      · rw [if_neg e, if_neg e]
        obtain ⟨as', i1, i2⟩ := put_snd f hy (List.cons.inj h).2 hs
        exact ⟨a1 ++ as', List.Sublist.append_left i1 _, .cons s1 i2⟩
end
section
variable {X : Cx} {B : Base} {S S1 S2 S3 : Stt} {x y z : Slot} {a b c e o : Expr} {es : List Expr} {pos apos cpos : Pos} {D : FE} {rest : List Stmt} {kk lv : Nat} {tg : Expr} {p C : Addr} {fs : List (Str × Slot)} {f m : Str}
/-- o.f -/
theorem je_fget (k : Nat) {s : Slot} (cl : Cls X.K C) (na : NoAttr X.K C f) (ho : JE X B S o S1 (.v (.ref p))) (hk : S1.cs[k]? = some (p, .ins C fs)) (hl : fs.lookup f = some s) (hp : s.plain = true := by rfl) (hb : attributeBase o f X.env (eval o X.env) = eval o X.env := by rfl) : JE X B S (.Attribute o f pos) S1 s := fun T tv σ H Q h q =>
  pe1 (pe_fld pe0 hb) (ho _ _ _ _ _ h fun v1 H1 h1 => by
    have e := h1.exact
    subst e
    obtain ⟨G, as, bs, z⟩ := h1.drop
    obtain ⟨oo, mm, hpp, hc, _, _, _, _⟩ := z.cellW hk (by intro e; cases e)
    cases hc with
    | @ins _ dx _ gs _ hks hss =>
      obtain ⟨u, hu, su⟩ := fld_rel hp hks hss hl
      exact ⟨p, C, dx, gs, u, rfl, hpp, cl, na, hu, q _ _ (z.push su)⟩)
/-- o.f = e, a plain value -/
theorem js_fput (k : Nat) {pos' : Pos} (cl : Cls X.K C) (na : NoAttr X.K C f) (he : JE X B S e S1 y) (ho : JE X B S1 o S2 (.v (.ref p))) (hk : S2.cs[k]? = some (p, .ins C fs)) (kx : JS X B ⟨S2.sl, S2.cs.set k (p, .ins C (putS f y fs))⟩ rest D) (hy : y.plain = true := by rfl) (hn : fs.length < 1000 := by exact Nat.le_of_ble_eq_true rfl) (hs : swapsWith e (some (.Attribute o f pos')) pos.line X.env = pure false := by rfl) : JS X B S (.Assign [.Attribute o f pos'] e pos :: rest) D :=
  js_step (ps_fld pe0 pe0 hs) fun T tv σ H h => he _ _ _ _ _ h fun v H1 h1 => ho _ _ _ _ _ h1 fun w H2 h2 => by
    have e := h2.exact
    subst e
    obtain ⟨G, as, bs, z0⟩ := h2.drop
    obtain ⟨a1, a2, rfl, hs1, z⟩ := z0.pop
    obtain rfl := hs1.nil hy
    obtain ⟨oo, mm, hpp, hc, _, hmm, _, reb⟩ := z.cellW hk (by intro e; cases e)
    cases hc with
    | @ins _ dx _ gs _ hks hss =>
      have hl : gs.length < 1000 := by
        have := congrArg List.length hks
        rw [List.length_map, List.length_map] at this
        omega
      obtain ⟨as', i1, i2⟩ := put_snd f hs1 hks hss
      have hnew : CeI G (upd H2 p (.ins C dx (putF f v gs))) (.ins C (putS f y fs)) (.ins C dx (putF f v gs)) as' := .ins (put_fst f y v hks) (SsI.mono i2 (Ex.refl G) fun a ha => upd_ne (hmm a (i1.subset ha)))
      obtain ⟨bs', z3⟩ := reb hnew i1
      exact ⟨p, C, dx, gs, rfl, hpp, cl, na, hl, kx _ _ _ _ z3.sta⟩
/-- o.f = e, a new thing: it has a cell of its own -/
theorem js_fputN (k : Nat) {pos' : Pos} {d : Cel} (cl : Cls X.K C) (na : NoAttr X.K C f) (he : JE X B S e S1 (.own d)) (ho : ∀ q, JE X B ⟨S1.sl, S1.cs ++ [(q, d)]⟩ o ⟨S1.sl, S1.cs ++ [(q, d)]⟩ (.v (.ref p))) (hk : ∀ q, (S1.cs ++ [(q, d)])[k]? = some (p, .ins C fs)) (kx : ∀ q, JS X B ⟨S1.sl, (S1.cs ++ [(q, d)]).set k (p, .ins C (putS f (.v (.ref q)) fs))⟩ rest D) (hn : fs.length < 1000 := by exact Nat.le_of_ble_eq_true rfl) (hs : swapsWith e (some (.Attribute o f pos')) pos.line X.env = pure false := by rfl) : JS X B S (.Assign [.Attribute o f pos'] e pos :: rest) D :=
  js_step (ps_fld pe0 pe0 hs) fun T tv σ H h => he _ _ _ _ _ h fun v H1 h1 => by
    obtain ⟨q, rfl, h1'⟩ := h1.name
    refine ho q _ _ _ _ _ h1' fun w H2 h2 => ?_
    have e := h2.exact
    subst e
    obtain ⟨G, as, bs, z0⟩ := h2.drop
    obtain ⟨a1, a2, rfl, hs1, z⟩ := z0.pop
    obtain rfl := hs1.nil rfl
    obtain ⟨oo, mm, hpp, hc, _, hmm, _, reb⟩ := z.cellW (hk q) (by intro e; cases e)
    cases hc with
    | @ins _ dx _ gs _ hks hss =>
      have hl : gs.length < 1000 := by
        have := congrArg List.length hks
        rw [List.length_map, List.length_map] at this
        omega
      obtain ⟨as', i1, i2⟩ := put_snd f hs1 hks hss
      have hnew : CeI G (upd H2 p (.ins C dx (putF f (.ref q) gs))) (.ins C (putS f (.v (.ref q)) fs)) (.ins C dx (putF f (.ref q) gs)) as' := .ins (put_fst f _ _ hks) (SsI.mono i2 (Ex.refl G) fun a ha => upd_ne (hmm a (i1.subset ha)))
      obtain ⟨bs', z3⟩ := reb hnew i1
      exact ⟨p, C, dx, gs, rfl, hpp, cl, na, hl, kx q _ _ _ _ z3.sta⟩
/-- a cell's part that has a cell of its own is taken in; the cell goes behind all others -/
theorem js_foldC (k k2 j : Nat) {q : Addr} {c0 d : Cel} (hk : S.cs[k]? = some (p, c0)) (hj : c0.nth j = some (.v (.ref q))) (hk2 : (S.cs.set k (p, .gone))[k2]? = some (q, d)) (kx : JS X B ⟨S.sl, ((S.cs.set k (p, .gone)).set k2 (q, .gone)) ++ [(p, c0.sub j (.own d))]⟩ rest D) (hg0 : c0 ≠ .gone := by nofun) (hg : d ≠ .gone := by nofun) : JS X B S rest D := fun T tv σ H hs => by
  have h1 : Sta B S (.v (.ref p) :: T) σ (.ref p :: tv) H := hs.push fun _ _ => .v
  have h2 := h1.own k hk hg0
  have h3 := h2.fold k2 j hj hk2 hg
  obtain ⟨p', e, h4⟩ := h3.name
  cases e
  exact kx _ _ _ _ h4.drop
/-! ### calls of methods, objects made -/
theorem je_mth {γ : Type} {fr : FS γ} {fa : Addr} {fd : FuncData} {ps : List Str} {xs : List Slot} {cs1 cs2 : List (Addr × Cel)} (k0 : Nat) (cl : Cls X.K C) (hm : Meth X.K C m fa) (F : FnOk X.prog X.w X.K X.mg X.base CX0 kk fa fd ps fr.sp) (hr : Room lv X.A) (hlv : kk ≤ lv) (hb : Binds X.K fd ps [])
    (ho : JE X B S o S1 (.v (.ref p))) (hk : S1.cs[k0]? = some (p, .ins C fs)) (hnl : fs.lookup m = none) (ha : JA X B S1 (e :: es) S2 xs) (g : γ) (hpre : fr.pre g) (hx : fr.args g = .v (.ref p) :: xs) (hpk : Pk S2.cs (fr.cells g) cs1) (hpt : Pt cs1 (fr.cells' g) cs2) (hG : ∀ G', Ex B.G G' → fr.preG g G' := by exact fun _ _ => trivial)
    (hst : starEach (e :: es) X.env = (false, eval e X.env) :: starEach es X.env := by rfl) (hpl : (backTo cpos (starEach es X.env)).any (·.1) = false := by rfl) {pl : Sem Bool}
    (ht : eval (.Call (.Attribute o m apos) (e :: es) [] cpos) X.env = (do
      let ov ← eval o X.env
      standAt apos.atName
      let (f, first) ← holding [ov] (getMethod ov m pl)
      callWith cpos f first (backTo cpos (starEach (e :: es) X.env)) (backToKw cpos (keywordEach [] X.env))) := by rfl) : JE X B S (.Call (.Attribute o m apos) (e :: es) [] cpos) ⟨S2.sl, cs2⟩ (fr.res g) := fun T tv σ H Q h q =>
  pe1 (pe_meth pe0 cl hm F (hr.mono hlv) hb .nil pass0 pa0 hst hpl ht) (ho _ _ _ _ _ h fun v1 H1 h1 => by
    have ev := h1.exact
    subst ev
    have at_ : ∃ dx gs, H1 p = some (.ins C dx gs) ∧ gs.lookup m = none := by
      obtain ⟨G, as, bs, z⟩ := id h1.drop
      obtain ⟨oo, mm, hpp, hc, _, _, _, _⟩ := z.cellW hk (by intro e; cases e)
      cases hc with
      | @ins _ dx _ gs _ hks hss => exact ⟨dx, gs, hpp, fld_none hks hnl⟩
    obtain ⟨dx, gs, hpp, hgl⟩ := at_
    refine ⟨p, dx, gs, rfl, hpp, hgl, ha _ _ _ _ _ h1 fun vs H2 hl h2 => ?_⟩
    rw [List.append_nil]
    exact sp_of (xs := .v (.ref p) :: xs) fr g hpre hG hx (congrArg Nat.succ hl) hpk hpt (Sta.rot hl.symm h2) q)
theorem je_mk {γ : Type} {fr : FS γ} {fi : Addr} {fd : FuncData} {ps : List Str} {xs : List Slot} {fs' : List (Str × Slot)} {n : Str} {q : Pos} (M : Mk X.K C fi) (F : FnOk X.prog X.w X.K X.mg X.base CX0 kk fi fd ps fr.sp) (hr : Room lv X.A) (hlv : kk + 1 ≤ lv) (hm : X.mg n = some (.ref C)) (hb : Binds X.K fd ps [])
    (ha : JA X B S (e :: es) S1 xs) (g : Addr → γ) (hpre : ∀ x, fr.pre (g x)) (hx : ∀ x, fr.args (g x) = .v (.ref x) :: xs) (hc : ∀ x, fr.cells (g x) = [(x, .ins C [])]) (hc' : ∀ x, fr.cells' (g x) = [(x, .ins C fs')]) (hres : ∀ x, fr.res (g x) = .v .non) (hG : ∀ x G', Ex B.G G' → fr.preG (g x) G' := by exact fun _ _ _ => trivial) (hg : Gl X n := by rfl)
    (hdb : (n == ("__debug__" : Str)) = false := by decide) (hst : starEach (e :: es) X.env = (false, eval e X.env) :: starEach es X.env := by rfl) (hpl : (backTo pos (starEach es X.env)).any (·.1) = false := by rfl) : JE X B S (.Call (.Name n q) (e :: es) [] pos) S1 (.own (.ins C fs')) := fun T tv σ H Q h q' =>
  pe1 (pe_make M F (hr.mono hlv) hg hm hb .nil pass0 pa0 hdb hst hpl) (ha _ _ _ _ _ h fun vs H1 hl h1 x dx hx1 hdx hne => by
    obtain ⟨G, as, bs, z⟩ := h1
    have h2 := (z.newG (x := .v (.ref dx)) (o := .own x) hdx .v).drop
    have hx2 : (upd H1 dx (.own x)) x = none := by rw [upd_ne (Ne.symm hne)]; exact hx1
    obtain ⟨G2, as2, bs2, z2⟩ := h2
    have h3 := z2.newO (c := .ins C []) (o := .ins C dx []) hx2 (.ins rfl .nil)
    obtain ⟨p', e', h4⟩ := h3.name
    cases e'
    rw [List.append_nil]
    have hk : (S1.cs ++ [(x, Cel.ins C [])])[S1.cs.length]? = some (x, .ins C []) := by rw [List.getElem?_append_right (Nat.le_refl _), Nat.sub_self]; rfl
    have s1 : ∀ c, (S1.cs ++ [(x, Cel.ins C [])]).set S1.cs.length (x, c) = S1.cs ++ [(x, c)] := fun c => by rw [List.set_append_right _ _ (Nat.le_refl _), Nat.sub_self]; rfl
    have s2 : ∀ c, (S1.cs ++ [(x, Cel.gone)]).set S1.cs.length (x, c) = S1.cs ++ [(x, c)] := fun c => by rw [List.set_append_right _ _ (Nat.le_refl _), Nat.sub_self]; rfl
    refine sp_of (xs := .v (.ref x) :: xs) (cs1 := S1.cs ++ [(x, .gone)]) (cs2 := S1.cs ++ [(x, .ins C fs')]) fr (g x) (hpre x) (hG x) (hx x) (congrArg Nat.succ hl) ?_ ?_ h4 fun w H' h5 => ?_
    · rw [hc]
      exact .cons S1.cs.length hk (by nofun) (by rw [s1]; exact .nil)
    · rw [hc']
      exact .cons S1.cs.length (by rw [List.getElem?_append_right (Nat.le_refl _), Nat.sub_self]; rfl) (by rw [s2]; exact .nil)
    · rw [hres] at h5
      have ew := h5.exact
      subst ew
      refine ⟨rfl, ?_⟩
      have h6 : Sta B ⟨S1.sl, S1.cs ++ [(x, .ins C fs')]⟩ (.v (.ref x) :: T) σ (.ref x :: tv) H' := h5.drop.push fun _ _ => .v
      have hk2 : (S1.cs ++ [(x, Cel.ins C fs')])[S1.cs.length]? = some (x, .ins C fs') := by rw [List.getElem?_append_right (Nat.le_refl _), Nat.sub_self]; rfl
      have h7 := (h6.own S1.cs.length hk2 (by nofun)).take S1.cs.length
      have e7 : ((S1.cs ++ [(x, Cel.ins C fs')]).set S1.cs.length (x, .gone)).take S1.cs.length = S1.cs := by
        rw [List.set_append_right _ _ (Nat.le_refl _), List.take_left']
        rfl
      exact q' _ _ (by
        have := h7
        dsimp only at this
        rw [e7] at this
        exact this))
/-! ### globals, tuples of texts, conditional expressions known ahead -/
theorem je_ifF (hc : JT X B S c S1 false) (hb : JE X B S1 b S2 x) : JE X B S (.IfExp c a b pos) S2 x := je_if hc (fun e => nomatch e) fun _ => hb
end
end J
namespace J
open PySem PySem.Spec PyProof.Rows L2
open PySem.W (Datum Tup)
/-! ### values put in another order -/
def pick {α : Type} (ord : List Nat) (xs : List α) : List α := ord.filterMap fun i => xs[i]?
theorem vals_get? {xs : List V} {us : List Value} (r : Vals xs us) (i : Nat) : (xs[i]? = none ∧ us[i]? = none) ∨ ∃ x u, xs[i]? = some x ∧ us[i]? = some u ∧ RelV x u := by
  cases e : xs[i]? with
  | none =>
    refine .inl ⟨rfl, ?_⟩
    rw [List.getElem?_eq_none_iff] at e ⊢
    rw [← r.length]
    exact e
  | some x =>
    obtain ⟨u, hu, ru⟩ := r.get e
    exact .inr ⟨x, u, rfl, hu, ru⟩
theorem pick_vals {xs : List V} {us : List Value} (r : Vals xs us) : ∀ ord : List Nat, Vals (pick ord xs) (pick ord us)
  | [] => .nil
  | i :: ord => by
    unfold pick
    rw [List.filterMap_cons, List.filterMap_cons]
    rcases vals_get? r i with ⟨e1, e2⟩ | ⟨x, u, e1, e2, ru⟩
    · rw [e1, e2]
      exact pick_vals r ord
    · rw [e1, e2]
      exact .cons ru (pick_vals r ord)
theorem sl_str {G H : Hp} (x : Str) : SlI G H (.val x) (.str x) [] := .val (.str x)
section
variable {X : Cx} {B : Base} {S S1 S2 S3 : Stt} {x y z : Slot} {a b c e o : Expr} {es : List Expr} {pos apos cpos : Pos} {D : FE} {rest : List Stmt} {kk lv : Nat} {tg : Expr} {kws : List Keyword}
theorem je_boolc {b c : Bool} (h : JE X B S e S1 (.val b)) (hb : b = c) : JE X B S e S1 (.val c) := hb ▸ h
/-- f(e, .., k = v, ..), what lacks filled up -/
theorem je_callN {γ : Type} {f : FS γ} {fa : Addr} {fd : FuncData} {ps ks : List Str} {nn : Nat} {n : Str} {q : Pos} {xs zs : List Slot} {cs1 cs2 : List (Addr × Cel)} {g0 : List Value → List Value → List Value → List Value} {gV : List V → List V → List V} (F : FnOk X.prog X.w X.K X.mg X.base CX0 kk fa fd ps f.sp) (hr : Room lv X.A) (hlv : kk ≤ lv) (hm : X.mg n = some (.ref fa)) (hk : PySem.W.keepIn X.K (.ref fa) = true) (hb : ∃ mv : List Value, KBn X.K fd ps nn ks (fun us ws => g0 us mv ws) gV)
    (ha : JA X B S (e :: es) S1 xs) (hkw : JK X B S1 kws S2 zs) (g : γ) (hpre : f.pre g) (hn : xs.length = nn) (hkl : zs.length = ks.length) (hx : ∀ {T : List Slot} {σ : L2.St} {vs ws tv : List V} {H : Hp}, vs.length = xs.length → ws.length = zs.length → Sta B S2 (zs ++ (xs ++ T)) σ (ws ++ (vs ++ tv)) H → (gV vs ws).length = (f.args g).length ∧ Sta B S2 (f.args g ++ T) σ (gV vs ws ++ tv) H) (hpk : Pk S2.cs (f.cells g) cs1) (hpt : Pt cs1 (f.cells' g) cs2) (hG : ∀ G', Ex B.G G' → f.preG g G' := by exact fun _ _ => trivial) (hg : Gl X n := by rfl)
    (hall : (backToKw pos (keywordEach kws X.env)).all (·.1.isSome) = true := by rfl) (hks : (backToKw pos (keywordEach kws X.env)).filterMap (·.1) = ks := by rfl)
    (hdb : (n == ("__debug__" : Str)) = false := by decide) (he : starEach (e :: es) X.env = (false, eval e X.env) :: starEach es X.env := by rfl)
    (hpl : ((backTo pos (starEach (e :: es) X.env)).any (·.1) || (backToKw pos (keywordEach kws X.env)).any (·.1.isNone)) = false := by rfl) :
    JE X B S (.Call (.Name n q) (e :: es) kws pos) ⟨S2.sl, cs2⟩ (f.res g) := fun T tv σ H Q h qq => by
  obtain ⟨mv, hb⟩ := hb
  refine pe1 (pe_callN F (hr.mono hlv) hg hm hk hb pass0 pa0 pk0 hall hks hdb he hpl) (ha _ _ _ _ _ h fun vs H1 hl h1 => hkw _ _ _ _ _ h1 fun ws H2 hl2 h2 => ?_)
  obtain ⟨l3, h3⟩ := hx hl hl2 h2
  exact ⟨hl.trans hn, hl2.trans hkl, sp_of f g hpre hG rfl l3 hpk hpt h3 qq⟩
theorem je_callKE {γ : Type} {f : FS γ} {fa : Addr} {fd : FuncData} {ps ks : List Str} {n : Str} {q : Pos} {xs : List Slot} {cs1 cs2 : List (Addr × Cel)} {g0 : List Value → List Value → List Value → List Value} {gV : List V → List V → List V} (F : FnOk X.prog X.w X.K X.mg X.base CX0 kk fa fd ps f.sp) (hr : Room lv X.A) (hlv : kk ≤ lv) (hm : X.mg n = some (.ref fa)) (hk : PySem.W.keepIn X.K (.ref fa) = true) (hb : ∃ mv : List Value, KBn X.K fd ps 0 ks (fun us ws => g0 us mv ws) gV)
    (ha : JK X B S kws S1 xs) (g : γ) (hpre : f.pre g) (hkl : xs.length = ks.length) (hx : ∀ {T : List Slot} {σ : L2.St} {vs tv : List V} {H : Hp}, vs.length = xs.length → Sta B S1 (xs ++ T) σ (vs ++ tv) H → (gV [] vs).length = (f.args g).length ∧ Sta B S1 (f.args g ++ T) σ (gV [] vs ++ tv) H) (hpk : Pk S1.cs (f.cells g) cs1) (hpt : Pt cs1 (f.cells' g) cs2) (hG : ∀ G', Ex B.G G' → f.preG g G' := by exact fun _ _ => trivial) (hg : Gl X n := by rfl)
    (hall : (backToKw pos (keywordEach kws X.env)).all (·.1.isSome) = true := by rfl) (hks : (backToKw pos (keywordEach kws X.env)).filterMap (·.1) = ks := by rfl)
    (hdb : (n == ("__debug__" : Str)) = false := by decide)
    (hpl : ((backTo pos (starEach [] X.env)).any (·.1) || (backToKw pos (keywordEach kws X.env)).any (·.1.isNone)) = false := by rfl) :
    JE X B S (.Call (.Name n q) [] kws pos) ⟨S1.sl, cs2⟩ (f.res g) := fun T tv σ H Q h qq => by
  obtain ⟨mv, hb⟩ := hb
  refine pe1 (pe_callN0 F (hr.mono hlv) hg hm hk hb pass0 pk0 hall hks hdb hpl) (ha _ _ _ _ _ h fun vs H1 hl h1 => ?_)
  obtain ⟨l3, h3⟩ := hx hl h1
  exact ⟨hl.trans hkl, sp_of f g hpre hG rfl l3 hpk hpt h3 qq⟩
end
end J
namespace J
open PySem PySem.Spec PyProof.Rows L2
open PySem.W (Datum Tup)
section
end
end J
namespace J
open PySem L2
open PySem.Spec PyProof.Rows
open PySem.W (Datum)
/-! ### a zip whose handed out tuple is kept by somebody: at z, with any marks -/
section
end
section
end
end J
namespace J
open PySem L2
open PySem.W (Datum)
/-! ### refusals: made, raised, passed on, caught, held behind the suite -/
def ExA (a : Addr) (cls : Value) (d : Option Addr) : Heap → Prop := fun h => ∃ oe vs, h.get? a = some oe ∧ oe.cls = cls ∧ oe.dict = d ∧ oe.data = .fields vs ∧ vs[2]? = some .none
end J
namespace J
open PySem PySem.Spec PyProof.Rows L2
section
end
end J
namespace J
open PySem L2
open PySem.W (Datum)
abbrev exa (a : Addr) (cls : Value) (d : Option Addr) : HO := .ext (ExA a cls d)
section
variable {α : Type} [DecidableEq α] [Datum α]
/-- a refusal of the class at C, that bears w -/
def Xc (C : Addr) (w : α) : Hp → V → Prop := fun G u => ∃ (a d : Addr) (v : V), u = .ref a ∧ G a = some (exa a (.ref C) (some d)) ∧ G d = some (.xd [(("what" : Str), v)]) ∧ Dq G v (Datum.toD w)
end
/-! the maker -/
section
end
/-! a def that refuses -/
section
end
end J
namespace J
open PySem L2
open PySem.W (Datum)
section
end
section
end
end J
namespace J
open PySem L2
open PySem.W (Datum)
/-! ### try at states; what a refusal tells -/
section
end
section
variable {α : Type} [DecidableEq α] [Datum α]
/-- a refusal by name: those that there are, where their classes stand -/
structure Xw where
  ns : List Str
  xc : Str → Addr
def XcN (K : Xw) (x : Str × α) : Hp → V → Prop := fun G u => x.1 ∈ K.ns ∧ Xc (K.xc x.1) x.2 G u
def xsl (K : Xw) : Option (Str × α) → Slot
  | none => .v .non
  | some x => .say (XcN K x)
section
end
end
end J
namespace J
open PySem L2
open PySem.W (Datum)
/-! ### isinstance and .what of a refusal -/
section
end
section
end
/-- names that stand for classes -/
inductive NmL (X : Cx) : List Expr → List V → List Value → Prop where
  | nil : NmL X [] [] []
  | own {n : Str} {p : Pos} {C : Addr} {es : List Expr} {cs : List V} {us : List Value} (hg : Gl X n) (hm : X.mg n = some (.ref C)) (hd : (n == ("__debug__" : Str)) = false) (r : NmL X es cs us) : NmL X (.Name n p :: es) (.ref C :: cs) (.ref C :: us)
theorem NmL.cls {X : Cx} {es : List Expr} {cs : List V} {us : List Value} (h : NmL X es cs us) : Paired ClsV cs us := by
  induction h with
  | nil => exact .nil
  | own _ _ _ _ ih => exact .cons (.own _) ih
theorem NmL.len {X : Cx} {es : List Expr} {cs : List V} {us : List Value} (h : NmL X es cs us) : cs.length = es.length := by
  induction h with
  | nil => rfl
  | own _ _ _ _ ih => exact congrArg Nat.succ ih
abbrev Xw.all (K : Xw) : List Str := ("PageError" : Str) :: K.ns
section
section
end
end
end J
namespace J
open PySem L2
open PySem.W (Datum)
/-! ### the head's part: what the written part says of the refusals, asked once -/
abbrev oo (a b : Option (Option Value)) : Bool := decide (a = b)
end J
namespace J
open PySem L2
open PySem.W (Datum)
/-! ### try and refusals in the mirrors -/
theorem xsl_plain {α : Type} [DecidableEq α] [Datum α] {K : Xw} {o : Option (Str × α)} : (xsl K o).plain = true := by cases o <;> rfl
end J
namespace J
open PySem L2 LamX
open PySem.Spec PyProof.Rows
open PySem.W (Datum)
/-! ### a lambda of one parameter -/
/-- one parameter, no other name of its own: captured ones and globals -/
structure LamP (sc scope : Scope) (p : Str) : Prop where
  kind : scope.kind = .function
  co : scope.isCoroutine = false
  gen : scope.isGenerator = false
  par : scope.names.lookup p = some .local
  own : ∀ y ∈ scope.names, (y.2 = .local → y.1 = p) ∧ y.2 ≠ .cell
  free : ∀ y ∈ scope.names, y.2 = .free → sc.names.lookup y.1 = some .cell ∨ sc.names.lookup y.1 = some .free
section
variable {X : Cx} {pins : List (Addr × Obj)} {σ : L2.St} {H : Hp} {s : Shared}
theorem LamP.has {scope : Scope} {p : Str} (L : LamP X.env.scope scope p) (ok : X.Ok) : ∀ y ∈ scope.names, y.2 = .free → ∃ c, X.env.cells.lookup y.1 = some c := fun y hy e => by
  rcases L.free y hy e with k | k
  · exact ok.has _ (.inl k)
  · exact ok.has _ (.inr k)
end
end J
namespace J
open PySem L2 LamX
open PySem.Spec PyProof.Rows
open PySem.W (Datum)
/-! ### a lambda as a value; the table of code objects as a cell -/
section
end
end J
namespace J
open PySem L2 LamX
open PySem.Spec PyProof.Rows
open PySem.W (Datum)
/-! ### max(xs, key=f): the turns -/
section
variable {X : Cx} {pins : List (Addr × Obj)} {σ : L2.St} {Ψ : Hp → Prop} {ws : List V} {kf : Nat → Int} {l f I S : Addr} {R : Result → Shared → Prop}
theorem two_moved {H : Hp} {s : Shared} {g : Heap} {tk : Nat} (V : Inv X pins σ H s) (fI : FpOk X pins H I) (fS : FpOk X pins H S) (k : ∀ b o, b ≠ I → b ≠ S → s.heap.get? b = some o → g.get? b = some o) : Inv X pins σ H { s with heap := g, toks := tk } :=
  V.turnedL (ch := [I, S]) (fun b o hb e => k b o (fun z => hb (by simp [z])) (fun z => hb (by simp [z])) e) fun b hb => by
    have e : b = I ∨ b = S := by simpa using hb
    rcases e with e | e <;> rw [e] <;> assumption
/-- what stands at a turn -/
structure MaxAt (X : Cx) (pins : List (Addr × Obj)) (σ : L2.St) (Ψ : Hp → Prop) (l I S : Addr) (H : Hp) (n : Nat) (data : Array Value) (s : Shared) : Prop where
  inv : Inv X pins σ H s
  psi : Ψ H
  fI : FpOk X pins H I
  fS : FpOk X pins H S
  ne : S ≠ I
  it : s.heap.IsListIter I l n
  acc : ∃ c, s.heap.get? S = some (seqObj "list" data c)
theorem MaxAt.lI {H : Hp} {n : Nat} {data : Array Value} {s : Shared} (m : MaxAt X pins σ Ψ l I S H n data s) (hl : ∀ (H : Hp) (s : Shared), Inv X pins σ H s → Ψ H → ∃ its : List Value, Vals ws its ∧ s.heap.IsList l its.toArray) : l ≠ I := fun e => by
  obtain ⟨o, h1, h2, _⟩ := m.it
  obtain ⟨its, _, o2, h3, h4, _⟩ := hl H s m.inv m.psi
  rw [e, h1] at h3
  rw [← Option.some.inj h3, h2] at h4
  exact absurd h4 (by decide)
theorem MaxAt.next {H : Hp} {n : Nat} {data : Array Value} {s : Shared} {y : V} {Q : Option Value → Shared → Prop} {E : Value → Shared → Prop} (hc : X.A.handled = none) (hl : ∀ (H : Hp) (s : Shared), Inv X pins σ H s → Ψ H → ∃ its : List Value, Vals ws its ∧ s.heap.IsList l its.toArray) (m : MaxAt X pins σ Ψ l I S H n data s) (hv : ws[n]? = some y) (hQ : ∀ v s', RelV y v → MaxAt X pins σ Ψ l I S H (n + 1) data s' → Q (some v) s') :
    wpAny (model X.prog X.w) X.A.in1 (pyNext (.ref I)) Q E s := by
  obtain ⟨its, rv, isl⟩ := hl _ _ m.inv m.psi
  have Wk := Walks.list (prog := X.prog) (w := X.w) (A := X.A.in1) hc I l (m.lI hl) its.toArray
  obtain ⟨v, e1, e2⟩ := rv.get hv
  have hlt : n < its.length := (List.getElem?_eq_some_iff.mp e1).1
  refine Wk.item n _ _ _ (by simpa using hlt) ⟨m.it, isl⟩ fun v' g tk hP st hk => ?_
  have e : v' = v := by
    have : its[n]? = some v' := by simpa using hP
    rw [e1] at this
    exact (Option.some.inj this).symm
  subst e
  obtain ⟨c, hS⟩ := m.acc
  exact hQ _ _ e2 ⟨two_moved m.inv m.fI m.fS fun b o h1 _ e => hk b o (by simpa using h1) e, m.psi, m.fI, m.fS, m.ne, st.1, ⟨c, hk S _ (by simpa using m.ne) hS⟩⟩
end
end J
namespace J
open PySem L2 LamX
open PySem.Spec PyProof.Rows
open PySem.W (Datum)
/-! ### max(xs, key=lambda p: ..) of whole numbers -/
def maxGo {α : Type} (k : α → Option Int) : α → Int → List α → Option α
  | b, _, [] => some b
  | b, kb, y :: ys => (k y).bind fun ky => if kb < ky then maxGo k y ky ys else maxGo k b kb ys
def maxBy {α : Type} (k : α → Option Int) : List α → Option α
  | [] => none
  | x :: xs => (k x).bind fun kx => maxGo k x kx xs
section
end
end J
namespace J
open PySem L2 LamX
open PySem.Spec PyProof.Rows
open PySem.W (Datum)
/-! ### defs whose code object is known; the head with tables -/
end J
namespace J
open PySem L2
open PySem.Spec PyProof.Rows
open PySem.W (Datum)
/-! ### sorted of numbers; range by steps as what a for goes over -/
theorem rgs_len (lo c : Int) (n : Nat) : (rgs lo c n).length = n := by unfold rgs; rw [List.length_map, List.length_range]
theorem rgs_get {lo c : Int} {n i : Nat} {m : Int} (h : (rgs lo c n)[i]? = some m) : i < n ∧ m = lo + (i : Nat) * c := by
  unfold rgs at h
  rw [List.getElem?_map] at h
  cases q : (List.range n)[i]? with
  | none => rw [q] at h; cases h
  | some j =>
    rw [q] at h
    cases h
    obtain ⟨h1, h2⟩ := List.getElem?_eq_some_iff.mp q
    rw [List.getElem_range] at h2
    subst h2
    rw [List.length_range] at h1
    exact ⟨h1, rfl⟩
section
variable {X : Cx} {B : Base} {S S1 S2 S3 : Stt} {x y z : Slot} {a b c e tg : Expr} {pos : Pos}
theorem wk_rgs {lo k : Int} {n : Nat} : Wk X B [] [] ((rgs lo k n).map Slot.val) (fun _ => True) (Itc lo k n) :=
  ⟨fun S T σ tv H i s _ hi h => by
    rw [List.getElem?_map] at hi
    cases q : (rgs lo k n)[i]? with
    | none => rw [q] at hi; cases hi
    | some m =>
      rw [q] at hi
      cases hi
      obtain ⟨h1, rfl⟩ := rgs_get q
      exact ⟨h1, fun v H' ⟨e1, e2⟩ => by
        subst e1 e2
        exact h.push fun _ _ => sl_int _⟩, fun S T σ tv H _ _ => by
    rw [List.length_map, rgs_len]
    exact Nat.le_refl _⟩
theorem ji_rgC {p : Pos} {i j k : Int} {n : Nat} (hm : X.mg "range" = none) (ha : JE X B S a S1 (.val i)) (hb : JE X B S1 b S2 (.val j)) (hc3 : JE X B S2 c S3 (.val k)) (h : RgC i j k n) (hg : Gl X "range" := by rfl)
    (hst : starEach [a, b, c] X.env = (false, eval a X.env) :: starEach [b, c] X.env := by rfl) (hst2 : starEach [b, c] X.env = (false, eval b X.env) :: starEach [c] X.env := by rfl) (hst3 : starEach [c] X.env = (false, eval c X.env) :: starEach [] X.env := by rfl) (hpl : (backTo pos (starEach [b, c] X.env)).any (·.1) = false := by rfl) :
    JI X B S tg (.Call (.Name "range" p) [a, b, c] [] pos) S3 [] ((rgs i k n).map Slot.val) (fun _ => True) := fun T tv σ H R hs q =>
  pi1 (pi_range3 hg hm pa0 hst hpl) (ja_cons ha (ja_cons hb (ja_cons hc3 ja_nil hst3) hst2) hst _ _ _ _ _ hs fun vs H1 hl h1 => by
    obtain ⟨v1, v2, v3, rfl⟩ : ∃ v1 v2 v3, vs = [v1, v2, v3] := match vs, hl with | [v1, v2, v3], _ => ⟨v1, v2, v3, rfl⟩
    have e1 := h1.int
    have e2 := h1.drop.int
    have e3 := h1.drop.drop.int
    subst e1 e2 e3
    exact ⟨i, j, k, n, rfl, h, q _ [] _ rfl h1.drop.drop.drop wk_rgs⟩)
theorem ji_rngG3 {p : Pos} {i j k : Int} {r : List Int} (hm : X.mg "range" = none) (ha : JE X B S a S1 (.val i)) (hb : JE X B S1 b S2 (.val j)) (hc3 : JE X B S2 c S3 (.val k)) (h : rngG3 i j k = some r) (hg : Gl X "range" := by rfl)
    (hst : starEach [a, b, c] X.env = (false, eval a X.env) :: starEach [b, c] X.env := by rfl) (hst2 : starEach [b, c] X.env = (false, eval b X.env) :: starEach [c] X.env := by rfl) (hst3 : starEach [c] X.env = (false, eval c X.env) :: starEach [] X.env := by rfl) (hpl : (backTo pos (starEach [b, c] X.env)).any (·.1) = false := by rfl) :
    JI X B S tg (.Call (.Name "range" p) [a, b, c] [] pos) S3 [] (r.map Slot.val) (fun _ => True) := by
  unfold rngG3 at h
  split at h
  · rename_i hb'
    cases h
    exact ji_rgC hm ha hb hc3 (rgC_ok hb').1 hg hst hst2 hst3 hpl
  · cases h
end
end J
namespace J
abbrev memD {α : Type} [DecidableEq α] (t : α) (xs : List α) : Bool := decide (t ∈ xs)
end J
namespace J
open PySem L2
open PySem.W (Datum)
/-! ### refusing calls by names -/
section
end
section
/-! a refusal within: what is around it is left too -/
end
end J
namespace J
open PySem L2
open PySem.Spec PyProof.Rows
open PySem.W (Datum)
/-! ### zip(a, b, strict=True), of lists alike in length -/
section
end
section
end
section
end
section
end
end J
namespace J
open PySem L2
open PySem.W (Datum)
/-! ### a list of two things of two kinds, compared -/
structure H2 (α β : Type) where
  a : α
  b : β
deriving DecidableEq
section
variable {α β : Type} [DecidableEq α] [Datum α] [DecidableEq β] [Datum β]
instance : Datum (H2 α β) where
  toD p := .list [Datum.toD p.a, Datum.toD p.b]
  plain p := by simp only [PyData.plain, PyData.plainAll, Datum.plain, Bool.and_self]
  eqv p q := by
    simp only [PyData.eqv, PyData.eqvAll]
    rw [Datum.eqv, Datum.eqv, Bool.and_true, ← Bool.decide_and]
    refine decide_eq_decide.mpr ⟨fun e => ?_, fun e => by rw [e]; exact ⟨rfl, rfl⟩⟩
    cases p
    cases q
    cases e.1
    cases e.2
    rfl
  depth := max (Datum.depth α) (Datum.depth β) + 1
  depth_le p := by
    simp only [PyData.depth, PyData.depthAll]
    exact Nat.succ_le_succ (Nat.max_le.mpr ⟨Nat.le_trans (Datum.depth_le p.a) (Nat.le_max_left _ _), Nat.max_le.mpr ⟨Nat.le_trans (Datum.depth_le p.b) (Nat.le_max_right _ _), Nat.zero_le _⟩⟩)
variable {B : Base} {S : Stt}
end
end J
namespace J
open PySem L2
open PySem.Spec PyProof.Rows
open PySem.W (Datum)
/-! ### enumerate(reversed(list)) -/
section
end
section
end
end J
namespace J
universe u w
open PySem L2
open PySem.W (Datum DatumOrd Holds HoldAll T3 T4)
/-! ### {k: v for ..}, keys whole numbers -/
section
end
end J
namespace J
open PySem L2
open PySem.W (Datum)
/-! ### in a dict, as a value -/
section
end
end J
namespace J
open PySem PySem.Spec PyProof.Rows L2
open PySem.W (Datum)
/-! ### list(range(b)), list(range(a, b)) -/
section
end
end J
namespace J
open PySem L2
/-! ### a or b, where b changes things, ahead of two ways -/
section
end
end J
namespace J
open PySem PySem.Spec PyProof.Rows L2
open PySem.W (Datum)
/-! ### dict(a list of pairs) -/
section
end
section
/-! ### d.get(k), where k may be None -/
end
end J
namespace J
open PySem PySem.Spec PyProof.Rows L2
open PySem.W (Datum)
/-! ### a name that may be without a value -/
section
end
end J
namespace J
open PySem PySem.Spec PyProof.Rows L2
open PySem.W (Datum)
/-! ### a call whose told list of whole numbers is nobody else's -/
def AlC (c : Cel) : Prop := ∀ (G G' H : Hp) (o : HO) (as : List Addr), CeI G H c o as → CeI G' H c o as
inductive Alc : List (Addr × Cel) → Prop where
  | nil : Alc []
  | cons {p : Addr} {c : Cel} {cs : List (Addr × Cel)} : AlC c → Alc cs → Alc ((p, c) :: cs)
theorem Alc.cs : ∀ {cs : List (Addr × Cel)}, Alc cs → ∀ {G G' H : Hp} {bs : List Addr}, CsI G H cs bs → CsI G' H cs bs
  | _, .nil, _, _, _, _, .nil => .nil
  | _, .cons h hs, _, _, _, _, .cons hp hc h2 => .cons hp (h _ _ _ _ _ hc) (hs.cs h2)
  | _, .cons h hs, _, _, _, _, .gone h2 => .gone (hs.cs h2)
section
end
end J
namespace J
open PySem PySem.Spec PyProof.Rows L2
open PySem.W (Datum DatumOrd)
/-! ### dicts by pairs of whole numbers -/
abbrev P2 := Int × Int
def kT (q : P2) : List Key := [Sum.inl q.1, Sum.inl q.2]
theorem kT_inj {a b : P2} (h : kT a = kT b) : a = b := by
  have h1 := Sum.inl.inj (List.cons.inj h).1
  have h2 := Sum.inl.inj (List.cons.inj (List.cons.inj h).2).1
  exact Prod.ext h1 h2
def tget {β : Type} (m : List (P2 × β)) (k : P2) : Option β := (m.find? fun q => decide (q.1 = k)).map (·.2)
def thas {β : Type} (m : List (P2 × β)) (k : P2) : Bool := (tget m k).isSome
def tput {β : Type} (m : List (P2 × β)) (k : P2) (v : β) : List (P2 × β) := if (m.any fun q => decide (q.1 = k)) = true then m.map (fun q => if q.1 = k then (q.1, v) else q) else m ++ [(k, v)]
def tputG {β : Type} (m : List (P2 × β)) (k : P2) (v : β) : Option (List (P2 × β)) := if m.length < 16777216 then some (tput m k v) else none
def tdrop {β : Type} (m : List (P2 × β)) (k : P2) : List (P2 × β) := m.filter fun q => decide (q.1 ≠ k)
section
variable {β : Type} [DecidableEq β] [Datum β] {G H : Hp}
def tks (m : List (P2 × β)) : List (List Key) := m.map fun q => kT q.1
def tss (m : List (P2 × β)) : List Slot := m.map fun q => Slot.val q.2
def dtC (m : List (P2 × β)) : Hp → HO → Prop := fun G o => ∃ gs : List (List Key × V), o = .dT gs ∧ tks m = gs.map (·.1) ∧ SsI G G (tss m) (gs.map (·.2)) []
theorem dtC_mono (m : List (P2 × β)) : MonoC (dtC m) := fun G G' o e ⟨gs, h1, h2, h3⟩ => ⟨gs, h1, h2, h3.mono e fun a h => nomatch h⟩
theorem tget_rel (k : P2) : ∀ {m : List (P2 × β)} {gs : List (List Key × V)}, tks m = gs.map (·.1) → SsI G H (tss m) (gs.map (·.2)) [] → (tget m k = none ∧ valV gs (kT k) = none) ∨ ∃ t u, tget m k = some t ∧ valV gs (kT k) = some u ∧ SlI G H (.val t) u []
  | [], [], _, _ => .inl ⟨rfl, rfl⟩
  | [], _ :: _, h, _ => by simp [tks] at h
  | _ :: _, [], h, _ => by simp [tks] at h
  | q :: m, g :: gs, h, hs => by
    have h1 : kT q.1 = g.1 := (List.cons.inj h).1
    have h2 : tks m = gs.map (·.1) := (List.cons.inj h).2
    have hs' : SsI G H (Slot.val q.2 :: tss m) (g.2 :: gs.map (·.2)) [] := hs
    generalize ha : ([] : List Addr) = as at hs'
    cases hs' with
    | cons s1 hs =>
      obtain rfl := SlI.nil s1 rfl
      rw [List.nil_append] at ha
      subst ha
      by_cases e : q.1 = k
      · have hg : g.1 = kT k := by rw [← h1, e]
        refine .inr ⟨q.2, g.2, ?_, valV_pos hg, s1⟩
        unfold tget
        rw [List.find?_cons, decide_eq_true e]
        rfl
      · have hg : ¬ g.1 = kT k := by rw [← h1]; exact fun z => e (kT_inj z)
        rw [valV_neg hg]
        have : tget (q :: m) k = tget m k := by
          unfold tget
          rw [List.find?_cons, decide_eq_false e]
        rw [this]
        exact tget_rel k h2 hs
theorem tany_rel (k : P2) : ∀ {m : List (P2 × β)} {gs : List (List Key × V)}, tks m = gs.map (·.1) → (gs.any fun kv => decide (kv.1 = kT k)) = m.any fun q => decide (q.1 = k)
  | [], [], _ => rfl
  | [], _ :: _, h => by simp [tks] at h
  | _ :: _, [], h => by simp [tks] at h
  | q :: m, g :: gs, h => by
    have h1 : kT q.1 = g.1 := (List.cons.inj h).1
    rw [List.any_cons, List.any_cons, tany_rel k (List.cons.inj h).2, ← h1]
    congr 1
    rw [decide_eq_decide]
    exact ⟨kT_inj, fun e => by rw [e]⟩
theorem tset_rel (k : P2) {v : β} {u : V} (hv : SlI G H (.val v) u []) : ∀ {m : List (P2 × β)} {gs : List (List Key × V)}, tks m = gs.map (·.1) → SsI G H (tss m) (gs.map (·.2)) [] → tks (m.map fun q => if q.1 = k then (q.1, v) else q) = (gs.map fun g => if g.1 = kT k then (g.1, u) else g).map (·.1) ∧ SsI G H (tss (m.map fun q => if q.1 = k then (q.1, v) else q)) ((gs.map fun g => if g.1 = kT k then (g.1, u) else g).map (·.2)) []
  | [], [], _, _ => ⟨rfl, .nil⟩
  | [], _ :: _, h, _ => by simp [tks] at h
  | _ :: _, [], h, _ => by simp [tks] at h
  | q :: m, g :: gs, h, hs => by
    have h1 : kT q.1 = g.1 := (List.cons.inj h).1
    have hs' : SsI G H (Slot.val q.2 :: tss m) (g.2 :: gs.map (·.2)) [] := hs
    generalize ha : ([] : List Addr) = as at hs'
    cases hs' with
    | cons s1 hs =>
      obtain rfl := SlI.nil s1 rfl
      rw [List.nil_append] at ha
      subst ha
      obtain ⟨i1, i2⟩ := tset_rel k hv (List.cons.inj h).2 hs
      simp only [List.map_cons] at i1 i2 ⊢
      by_cases e : q.1 = k
      · have hg : g.1 = kT k := by rw [← h1, e]
        rw [if_pos e, if_pos hg]
        exact ⟨congr (congrArg List.cons h1) i1, .cons (as := []) hv i2⟩
      · have hg : ¬ g.1 = kT k := by rw [← h1]; exact fun z => e (kT_inj z)
        rw [if_neg e, if_neg hg]
        exact ⟨congr (congrArg List.cons h1) i1, .cons (as := []) s1 i2⟩
theorem tput_rel (k : P2) {v : β} {u : V} (hv : SlI G H (.val v) u []) {m : List (P2 × β)} {gs : List (List Key × V)} (h : tks m = gs.map (·.1)) (hs : SsI G H (tss m) (gs.map (·.2)) []) : tks (tput m k v) = (putK gs (kT k) u).map (·.1) ∧ SsI G H (tss (tput m k v)) ((putK gs (kT k) u).map (·.2)) [] := by
  unfold tput putK
  rw [tany_rel k h]
  by_cases c : (m.any fun q => decide (q.1 = k)) = true
  · rw [if_pos c, if_pos c]
    exact tset_rel k hv h hs
  · rw [if_neg c, if_neg c]
    refine ⟨by unfold tks at h ⊢; rw [List.map_append, List.map_append, h]; rfl, ?_⟩
    show SsI G H (List.map _ (m ++ [(k, v)])) _ _
    rw [List.map_append, List.map_append]
    exact SsI.app hs (.cons (as := []) hv .nil)
theorem dq_pairA {G : Hp} {v : V} {t : P2} (h : Dq G v (Datum.toD t)) : ∃ l, v = .ref l ∧ G l = some (.tup ((kT t).map kV)) := by
  obtain ⟨l, e, hl⟩ := dq_pr (Ex.refl G) h
  exact ⟨l, e, hl⟩
end
section
variable {X : Cx} {B : Base} {S S1 S2 S3 : Stt} {x y z : Slot} {a b e o : Expr} {es : List Expr} {pos apos cpos : Pos} {D : FE} {rest : List Stmt} {kk : Nat} {p : Addr} {β : Type} [DecidableEq β] [Datum β] {m : List (P2 × β)} {key : P2}
theorem Sta.pairA {T : List Slot} {σ : L2.St} {tv : List V} {H : Hp} {v : V} {t : P2} (h : Sta B S (.val t :: T) σ (v :: tv) H) : ∃ l, v = .ref l ∧ H l = some (.tup ((kT t).map kV)) := by
  obtain ⟨G, as, bs, z⟩ := h
  obtain ⟨a1, a2, rfl, g1, z1⟩ := z.pop
  obtain ⟨l, rfl, hl⟩ := dq_pairA (sl_dq g1)
  exact ⟨l, rfl, z1.sub _ _ hl⟩
theorem Sta.dgetT {T : List Slot} {σ : L2.St} {tv : List V} {H : Hp} {l : Addr} (h : Sta B S T σ tv H) (k : Nat) (hk : S.cs[k]? = some (p, .say (dtC m))) (hb : H l = some (.tup ((kT key).map kV))) : ∃ o : Option V, DGet H p (.ref l) o ∧ o.isSome = thas m key ∧ ∀ t, tget m key = some t → ∃ u, o = some u ∧ Sta B S (.val t :: T) σ (u :: tv) H := by
  obtain ⟨G, as, bs, z⟩ := h
  obtain ⟨oo, mm, hpp, hc, _, _, _, _⟩ := z.cellW hk (by intro e; cases e)
  cases hc with
  | say _ hc =>
    obtain ⟨gs, rfl, hks, hss⟩ := hc
    refine ⟨valV gs (kT key), DGet.t (k := kT key) hpp hb, ?_, fun t ht => ?_⟩
    · rcases tget_rel key hks hss with ⟨e1, e2⟩ | ⟨t, u, e1, e2, _⟩
      · unfold thas; rw [e1, e2]; rfl
      · unfold thas; rw [e1, e2]; rfl
    · rcases tget_rel key hks hss with ⟨e1, e2⟩ | ⟨t', u, e1, e2, su⟩
      · rw [e1] at ht; cases ht
      · rw [e1] at ht
        cases ht
        exact ⟨u, e2, z.push (su.mono (Ex.refl G) fun a h => nomatch h)⟩
theorem je_dispT0 : JE X B S (.Dict [] [] pos) S (.own (.say (dtC ([] : List (P2 × β))))) := fun T tv σ H Q hs q =>
  pe1 pe_dnewT (fun p hp => by
    obtain ⟨G, as, bs, z⟩ := hs
    exact q _ _ (z.newO hp (.say (dtC_mono _) ⟨[], rfl, rfl, .nil⟩ fun _ z => nomatch z)))
theorem jt_dinT (k : Nat) {i : Expr} (hr : Room kk X.A) (hi : JE X B S i S1 (.val key)) (ho : JE X B S1 o S2 (.v (.ref p))) (hk : S2.cs[k]? = some (p, .say (dtC m))) (hm : behindInMarks .In o = false := by rfl) : JT X B S (.Compare i [.In] [o] pos) S2 (thas m key) := fun T tv σ H Q h q =>
  pt1 (pt_cmp (pc_din (hu_of hr) pe0 pe0) hm) (hi _ _ _ _ _ h fun v1 H1 h1 => by
    refine ho _ _ _ _ _ h1 fun v2 H2 h2 => ?_
    have e := h2.exact
    subst e
    obtain ⟨l, rfl, hb⟩ := h2.drop.pairA
    obtain ⟨o, hd, e, _⟩ := h2.drop.drop.dgetT (key := key) k hk hb
    exact ⟨p, o, rfl, hd, _, rfl, e ▸ q _ h2.drop.drop⟩)
theorem js_dputT (k : Nat) {t : β} {m' : List (P2 × β)} {i : Expr} {pos' : Pos} (hr : Room kk X.A) (he : JE X B S e S1 (.val t)) (ho : JE X B S1 o S2 (.v (.ref p))) (hi : JE X B S2 i S3 (.val key)) (hk : S3.cs[k]? = some (p, .say (dtC m))) (hm : tputG m key t = some m') (kx : JS X B ⟨S3.sl, S3.cs.set k (p, .say (dtC m'))⟩ rest D)
    (hs : swapsWith e (some (.Subscript o i pos')) pos.line X.env = pure false := by rfl) : JS X B S (.Assign [.Subscript o i pos'] e pos :: rest) D :=
  js_step (ps_dput (hu_of hr) pe0 pe0 pe0 hs) fun T tv σ H h => he _ _ _ _ _ h fun v H1 h1 => ho _ _ _ _ _ h1 fun w1 H2 h2 => by
    have e := h2.exact
    subst e
    refine hi _ _ _ _ _ h2 fun w2 H3 h3 => ?_
    obtain ⟨l, rfl, hb⟩ := h3.pairA
    obtain ⟨G, as, bs, z0⟩ := h3.drop.drop
    obtain ⟨a1, a2, rfl, hs1, z⟩ := z0.pop
    obtain rfl := hs1.nil rfl
    obtain ⟨oo, mm, hpp, hc, _, hm1, _, reb⟩ := z.cellW hk (by intro e; cases e)
    cases hc with
    | say _ hc =>
      obtain ⟨gs, rfl, hks, hss⟩ := hc
      unfold tputG at hm
      split at hm
      · rename_i hlt
        cases hm
        have hlen : gs.length = m.length := by
          have := congrArg List.length hks
          unfold tks at this
          rw [List.length_map, List.length_map] at this
          exact this.symm
        have hs2 : SlI G G (.val t) v [] := .val (sl_dq hs1)
        obtain ⟨e1, e2⟩ := tput_rel key hs2 hks hss
        have hnew : CeI G (upd H3 p (.dT (putK gs (kT key) v))) (.say (dtC (tput m key t))) (.dT (putK gs (kT key) v)) [] := .say (dtC_mono _) ⟨_, rfl, e1, e2⟩ fun _ z => nomatch z
        obtain ⟨bs', z3⟩ := reb hnew (List.Sublist.refl _)
        exact ⟨p, _, rfl, DPut.t (k := kT key) hpp hb (small16 (by omega)), kx _ _ _ _ z3.sta⟩
      · cases hm
theorem je_dlenT (k : Nat) {q : Pos} (hm : X.mg "len" = none) (ha : JE X B S e S1 (.v (.ref p))) (hk : S1.cs[k]? = some (p, .say (dtC m))) (hg : Gl X "len" := by rfl) (hst : starEach [e] X.env = (false, eval e X.env) :: starEach [] X.env := by rfl) : JE X B S (.Call (.Name "len" q) [e] [] pos) S1 (.val (m.length : Int)) :=
  je_callB call_len_dT hm (by decide +kernel) (ja_cons ha ja_nil hst) (oc1 fun T tv σ v H Q hs q => by
    have e := hs.exact
    subst e
    obtain ⟨G, as, bs, z⟩ := hs.drop
    obtain ⟨oo, mm, hpp, hc, _, _, _, _⟩ := z.cellW hk (by intro e; cases e)
    cases hc with
    | say _ hc =>
      obtain ⟨gs, rfl, hks, hss⟩ := hc
      have hl : gs.length = m.length := by
        have := congrArg List.length hks
        unfold tks at this
        rw [List.length_map, List.length_map] at this
        exact this.symm
      exact ⟨p, gs, rfl, hpp, hl ▸ q _ _ (z.push (sl_int _))⟩) hg (by decide) (by decide) hst
/-! ### t[1:3] of four -/
/-! ### a text that a global has -/
theorem je_globS {n : Str} {x : Str} (hm : ∃ t, X.mg n = some (.str x t)) (hg : Gl X n := by rfl) (hd : (n == ("__debug__" : Str)) = false := by decide) : JE X B S (.Name n pos) S (.val x) := fun T tv σ H Q h q => by
  obtain ⟨t, ht⟩ := hm
  exact pe1 (pe_glob hg ht (show RelV (.str x) (.str x t) from ⟨t, rfl⟩) hd) (q _ _ (h.push fun _ _ => sl_str _))
end
/-! ### max(xs, default=d) -/
def maxDf (xs : List Int) (d : Int) : Int := match xs with
  | [] => d
  | t :: ts => PySem.W.maxOf t ts
def rMaxD (K : PySem.W.Frag) : List V → List V → Hp → VK → Prop := fun ws zs H Q => ∃ (ns : List Int) (a : Addr) (vs : List V) (d : V), ws = [.ref a] ∧ zs = [d] ∧ SqL K H a vs ∧ DqAll H vs (ns.map PyData.int) ∧ (ns = [] → Q d H) ∧ (ns ≠ [] → ∀ k, Q (.int (maxDf ns k)) H)
theorem cr_maxD {X : Cx} (hu : X.A.units + 64 < cLine) (hc : X.calm = true) : CallRK X (.builtin "max") ["default"] (rMaxD X.K) := by
  intro pins s σ H ws zs us ks Q I r rz h
  obtain ⟨ns, a, vs, d, rfl, rfl, hs, ha, q0, q1⟩ := h
  obtain ⟨its, rv, pl, _⟩ := I.list hs
  obtain ⟨ud, rfl, rd⟩ := vals1 rz
  rw [Vals.ref1 r]
  refine PySem.W.max_list_datum_default (α := Int) (xs := ns) (I.ok.hd hc) pl.isList (by simpa using holdAll_of I (show DqAll H vs (ns.map Datum.toD) from ha) rv) (by show _ + 1 + 0 < _; omega) (fun e h' tk hk => ?_) fun y ys i u h' tk e hi hm hk => ?_
  · exact ⟨d, H, I.kept hk, rd, q0 e⟩
  · subst e
    obtain ⟨v, h1, h2, h3⟩ := at_same I (show DqAll H vs ((y :: ys).map Datum.toD) from ha) rv (by simpa using hi) hm hk
    have hx := (dqAll_ss (G := H) (H := H) (show DqAll H vs ((y :: ys).map Datum.toD) from ha)).get i (show ((y :: ys).map Slot.val)[i]? = some (Slot.val (PySem.W.maxOf y ys)) by rw [List.getElem?_map, h3] <;> rfl)
    obtain ⟨v', e1, e2⟩ := hx
    rw [h1] at e1
    cases e1
    cases (show Dq H v (.int (PySem.W.maxOf y ys)) from sl_dq e2)
    exact ⟨_, H, I.kept hk, h2, q1 (fun z => nomatch z) 0⟩
section
variable {X : Cx} {B : Base} {S S1 S2 S3 : Stt} {x : Slot} {e f : Expr} {pos : Pos} {kk : Nat}
theorem je_maxD {ns : List Int} {d : Int} {p kp : Pos} (hr : Room kk X.A) (hm : X.mg "max" = none) (ha : JE X B S e S1 x) (hd : JE X B S1 f S2 (.val d)) (hl : Lv X.K B S2 x (ns.map Slot.val)) (hc : X.calm = true := by rfl) (hg : Gl X "max" := by rfl)
    (he : backTo pos (starEach [e] X.env) = (false, eval e X.env) :: backTo pos (starEach [] X.env) := by rfl) (hst : starEach [e] X.env = (false, eval e X.env) :: starEach [] X.env := by rfl) (hpl : (backTo pos (starEach [e] X.env)).any (·.1) = false := by rfl) : JE X B S (.Call (.Name "max" p) [e] [⟨some "default", f, kp⟩] pos) S2 (.val (maxDf ns d)) := fun T tv σ H Q h q =>
  pe1 (pe_callBK (cr_maxD hr.units hc) hg hm (by decide +kernel) pa0 (pk_cons pe0 pk_nil) (by decide) (by decide) he hpl rfl rfl rfl) (ja_cons ha ja_nil hst _ _ _ _ _ h fun vs H1 hl' h1 => by
    obtain ⟨v, rfl⟩ : ∃ v, vs = [v] := match vs, hl' with | [v], _ => ⟨v, rfl⟩
    refine hd _ _ _ _ _ h1 fun w H2 h2 => ?_
    have ew := h2.int
    subst ew
    have h3 : Sta B S2 (x :: T) σ (v :: tv) H2 := h2.drop
    obtain ⟨G, as, bs, z⟩ := id h3
    obtain ⟨a, us, rfl, hq, hss⟩ := hl z
    refine ⟨ns, a, us, .int d, rfl, rfl, hq, dqAll_mono z.sub (ss_dqAll hss), fun e => ?_, fun hne k => ?_⟩
    · subst e
      exact q _ _ (h3.drop.push fun _ _ => sl_int _)
    · have : maxDf ns k = maxDf ns d := by
        cases ns with
        | nil => exact absurd rfl hne
        | cons y ys => rfl
      rw [this]
      exact q _ _ (h3.drop.push fun _ _ => sl_int _))
end
end J
namespace J
open PySem PySem.Spec PyProof.Rows L2
open PySem.W (Datum)
/-! ### d.pop(k), k a pair -/
def tDPop1T (td ty : TE) : TE := fun σ H Q => td σ H fun x H1 => ∃ a, x = .ref a ∧ IsD H1 a ∧ ty σ H1 fun y H2 => ∃ (kvs : List (List Key × V)) (k : List Key) (b : Addr) (v : V), H2 a = some (.dT kvs) ∧ y = .ref b ∧ H2 b = some (.tup (k.map kV)) ∧ valV kvs k = some v ∧ Q v (upd H2 a (.dT (dropK kvs k)))
section
variable {X : Cx} {B : Base} {S S1 S2 S3 : Stt} {x y z : Slot} {a b e o : Expr} {pos apos cpos : Pos} {kk : Nat} {p : Addr} {β : Type} [DecidableEq β] [Datum β] {m : List (P2 × β)} {key : P2}
theorem d_popT {pins : List (Addr × PySem.Obj)} {σ : L2.St} {H : Hp} {s : Shared} {a b : Addr} {kvs : List (List Key × V)} {k : List Key} {v : V} {Q : Value → Shared → Prop} {E : Value → Shared → Prop} (hu : X.A.units + 1 < cLine) (I : Inv X pins σ H s) (ha : H a = some (.dT kvs)) (hb : H b = some (.tup (k.map kV))) (hv : valV kvs k = some v) (h : ∀ w s', Inv X pins σ (upd H a (.dT (dropK kvs k))) s' → RelV v w → Q w s') : wpAny (model X.prog X.w) X.A (call (.builtin "dict.pop") [.ref a, .ref b]) Q E s := by
  obtain ⟨z, hd, xs, rel, dd⟩ := dt_of I.hok ha
  have hz : xs.length ≤ sizeLine := by rw [← Paired.length rel]; exact z
  have rr := rel.val k
  rw [hv] at rr
  cases hp : atKey xs k with
  | none =>
    rw [hp] at rr
    exact (show False from rr).elim
  | some pv =>
    rw [hp] at rr
    refine call_pop_heap (more := []) (knd := tupleKind (mixKind X.prog X.w)) (.inl rfl) (PySem.F.args_dict_pop_2 _ _) (tupleKind_room_in1 hu) (key_of I.hok hb) hd dd hp (fun h' dd' hs => ?_) hz
    obtain ⟨o, es, ep, hq, h2, h3, h4, _, h5⟩ := dd'
    exact h _ _ (d_write I (by rw [ha]; exact True.intro) hs ⟨o, hq⟩ ⟨Nat.le_trans (dropK_le kvs k) z, hd, _, (L2.DX.KT_drop k rel).keeps (fun c ys ec => (by rw [upd_ne (ne_of ec ha (fun z => nomatch z))]; exact ec)), o, es, ep, hq, h2, h3, h4, h5⟩) rr
theorem pe_dpop1T {td ty : TE} (hu : X.A.units + 1 < cLine) (ho : PE X o td) (he : PE X e ty) (mm : M1 X o "pop" apos e cpos) : PE X (.Call (.Attribute o "pop" apos) [e] [] cpos) (tDPop1T td ty) := by
  refine ⟨fun pins s σ H Q I h => ?_⟩
  refine wpAny_Call_method mm.base mm.few mm.line PySem.F.plainAttrs_dict PySem.F.slot_dict_pop PySem.F.type_dict_pop (thn (ho.run pins s σ H _ I h) fun u s1 ⟨x, H1, I1, rx, a, ex, d, q1⟩ => ?_)
  subst ex
  obtain rfl : u = Value.ref a := rx
  obtain ⟨t1, t2, _⟩ := isD_at I1 d
  refine ⟨t1, t2, ?_⟩
  rw [mm.trees]
  refine Calls.callWith_builtin rfl (Calls.evalArgs_plain (Calls.spliced_cons (thn (he.run pins s1 σ H1 _ I1 q1) fun iv s2 ⟨y, H2, I2, ry, kvs, k, b, v, ea, ey, eb, l, q2⟩ => Calls.spliced_nil ?_)))
  subst ey
  obtain rfl : iv = Value.ref b := ry
  exact d_popT hu I2 ea eb l fun w' s3 I3 rw' => ⟨v, _, I3, rw', q2⟩
theorem tdrop_rel {G H : Hp} (k : P2) : ∀ {m : List (P2 × β)} {gs : List (List Key × V)}, tks m = gs.map (·.1) → SsI G H (tss m) (gs.map (·.2)) [] → tks (tdrop m k) = (dropK gs (kT k)).map (·.1) ∧ SsI G H (tss (tdrop m k)) ((dropK gs (kT k)).map (·.2)) []
  | [], [], _, _ => ⟨rfl, .nil⟩
  | [], _ :: _, h, _ => by simp [tks] at h
  | _ :: _, [], h, _ => by simp [tks] at h
  | q :: m, g :: gs, h, hs => by
    have h1 : kT q.1 = g.1 := (List.cons.inj h).1
    have hs' : SsI G H (Slot.val q.2 :: tss m) (g.2 :: gs.map (·.2)) [] := hs
    generalize ha : ([] : List Addr) = as at hs'
    cases hs' with
    | cons s1 hs =>
      obtain rfl := SlI.nil s1 rfl
      rw [List.nil_append] at ha
      subst ha
      obtain ⟨i1, i2⟩ := tdrop_rel k (List.cons.inj h).2 hs
      unfold tdrop dropK at i1 i2 ⊢
      rw [List.filter_cons, List.filter_cons]
      by_cases e : q.1 = k
      · have hg : g.1 = kT k := by rw [← h1, e]
        rw [if_neg (by simp [e]), if_neg (by simp [hg])]
        exact ⟨i1, i2⟩
      · have hg : ¬ g.1 = kT k := by rw [← h1]; exact fun z => e (kT_inj z)
        rw [if_pos (by simp [e]), if_pos (by simp [hg])]
        exact ⟨congr (congrArg List.cons h1) i1, .cons (as := []) s1 i2⟩
theorem je_dpopT (k : Nat) {t : β} {i : Expr} (hr : Room kk X.A) (ho : JE X B S o S1 (.v (.ref p))) (hk0 : S1.cs[k]? = some (p, .say (dtC m))) (hi : JE X B S1 i S2 (.val key)) (hk : S2.cs[k]? = some (p, .say (dtC m))) (ht : tget m key = some t)
    (hbase : attributeBase o "pop" X.env (eval o X.env) = eval o X.env := by rfl)
    (hfew : ((backTo cpos (starEach [i] X.env)).all (fun x => !x.1) && (backToKw cpos (keywordEach [] X.env)).all (fun x => x.1.isSome) && decide (([i] : List Expr).length + ([] : List Keyword).length + (if ([] : List Keyword).isEmpty then 0 else 1) < 30)) = true := by rfl)
    (hline : (apos.endLine == cpos.line) = true := by rfl) (htr : backTo cpos (starEach [i] X.env) = [(false, eval i X.env)] := by rfl) : JE X B S (.Call (.Attribute o "pop" apos) [i] [] cpos) ⟨S2.sl, S2.cs.set k (p, .say (dtC (tdrop m key)))⟩ (.val t) := fun T tv σ H Q h q =>
  pe1 (pe_dpop1T (hu_of hr) pe0 pe0 ⟨hbase, hfew, hline, htr⟩) (ho _ _ _ _ _ h fun v1 H1 h1 => by
    have e := h1.exact
    subst e
    have isd : IsD H1 p := by
      obtain ⟨G, as, bs, z⟩ := id h1.drop
      obtain ⟨oo, mm, hpp, hc, _, _, _, _⟩ := z.cellW hk0 (by intro e; cases e)
      cases hc with
      | say _ hc =>
        obtain ⟨gs, rfl, _, _⟩ := hc
        exact .inr ⟨gs, .inl hpp⟩
    refine ⟨p, rfl, isd, hi _ _ _ _ _ h1 fun v2 H2 h2 => ?_⟩
    obtain ⟨l, rfl, hb⟩ := h2.pairA
    obtain ⟨G, as, bs, z⟩ := h2.drop.drop
    obtain ⟨oo, mm, hpp, hc, _, _, _, reb⟩ := z.cellW hk (by intro e; cases e)
    cases hc with
    | say _ hc =>
      obtain ⟨gs, rfl, hks, hss⟩ := hc
      rcases tget_rel key hks hss with ⟨e1, _⟩ | ⟨t', u, e1, e2, su⟩
      · rw [e1] at ht; cases ht
      · rw [e1] at ht
        cases ht
        obtain ⟨r1, r2⟩ := tdrop_rel key hks hss
        have hnew : CeI G (upd H2 p (.dT (dropK gs (kT key)))) (.say (dtC (tdrop m key))) (.dT (dropK gs (kT key))) [] := .say (dtC_mono _) ⟨_, rfl, r1, r2⟩ fun _ z => nomatch z
        obtain ⟨bs', z3⟩ := reb hnew (List.Sublist.refl _)
        exact ⟨gs, kT key, l, u, hpp, rfl, hb, e2, q _ _ (z3.push (SlI.mono su (Ex.refl G) fun a ha => nomatch ha))⟩)
end
/-! ### a and b, where b changes things, ahead of two ways -/
section
end
end J
namespace J
open PySem PySem.Spec PyProof.Rows L2
open PySem.W (Datum)
/-! ### a def that is called with nothing being shown: the law itself -/
structure FnG (P : Program) (w : World) (K : PySem.W.Frag) (mg : Str → Option Value) (base : Heap) (CX : CXT) (k : Nat) (fa : Addr) (fd : FuncData) (ps : List Str) (sp : Sp) : Prop where
  go : ∀ (A1 : Around) (out : List Env) (s : Shared) (H : Hp) (ag : Args) (us : List Value) (vs : List V) (Q : VK) (E : XK), A1.guards = some [] → Room k A1 → Env0 P w K mg base A1 out s H → BindsTo s fd ag (ps.zip us) → Vals vs us → sp vs H Q E →
    codeAny (model P w) A1 (.call (.ref fa) ag) (CR CX out P w H s Q E) s
theorem deeper_guards {A1 : Around} {env : Env} (h : A1.guards = some []) : (A1.deeper env).guards = some [] := by
  have e : (A1.deeper env).guards = A1.guards := by
    first
      | rfl
      | (obtain ⟨hd, d, fr, gs, u⟩ := A1; simp [Around.deeper, Around.under, pushGuards, Code.guards, Code.isGuard])
  rw [e, h]
theorem fn_ofG {CX : CXT} {P : Program} {w : World} {K : PySem.W.Frag} {mg : Str → Option Value} {base : Heap} {k : Nat} {fa : Addr} {nm qual : Str} {params : Arguments} {bd : List Stmt} {scope : Scope} {dV kV doc pm cdv ct oc : Value} {an od : Option Addr}
    {osl : Array (Option Value)} {N ps : List Str} {sp : Sp} (lk : K.lookup fa = some ⟨oc, od, .func (PySem.W.fnOf nm qual params bd scope dV kV doc pm an cdv ct), osl⟩) (hcd : PySem.W.codeIn K cdv qual = true) (Sc : FnScope N ps scope)
    (hlen : ∀ vs H Q E, sp vs H Q E → vs.length = ps.length)
    (hbd : ∀ (A1 : Around) (out : List Env) (s : Shared) (H : Hp) (vs : List V) (Q : VK) (E : XK), (A1.deeper (envOfC qual scope s.heap.objs.size fa cdv)).guards = some [] → Room k (A1.deeper (envOfC qual scope s.heap.objs.size fa cdv)) → sp vs H Q E →
      ∃ t, PSs (cxOf CX P w K mg base N qual scope fa cdv A1 out s H E) bd t ∧ t { nx := fun _ H' => Q .non H', rt := Q } (start N vs) H) :
    FnG P w K mg base CX (k + 1) fa (PySem.W.fnOf nm qual params bd scope dV kV doc pm an cdv ct) ps sp := by
  refine ⟨fun A1 out s H ag us vs Q E hg hr en hb r hsp => ?_⟩
  have hl := hlen _ _ _ _ hsp
  have old : ∀ b o, base.get? b = some o → s.heap.get? b = some o := fun b o e => (en.bs b o e).1
  have kin : K.In s.heap := en.mod.kin.keeps old
  have nol : s.heap.NoLimit := en.mod.nolimit.keeps old
  have kinds : ∀ y ∈ ps.zip us, scope.names.lookup y.1 = some .local ∨ (scope.names.lookup y.1 = some .cell ∧ ((cellsFrom (s.heap.objs.size + 1) scope.names []).lookup y.1).isSome = true) := fun ⟨n, v⟩ hy => by
    cases Sc.par n (List.of_mem_zip hy).1 with
    | inl q => exact .inl q
    | inr q => exact .inr ⟨q, PySem.W.cellsFrom_some _ _ _ (.inl q)⟩
  refine codeAny_call_function hr.depth (kin _ _ lk) rfl Sc.co Sc.gen rfl (PySem.W.codeRec_of kin hcd) (hb _ _ _ _ ?_)
  refine wpAny_newFunctionEnv_cells Sc.kind kinds fun env ee s1 xx => ?_
  cases ee
  refine ⟨nol.keeps xx.toInCall.keep, codeAny_func ?_⟩
  obtain ⟨t, ht, hq⟩ := hbd A1 out s H vs Q E (deeper_guards hg) (hr.deeper _) hsp
  have I0 := inv_start (CX := CX) (E := E) (cd := cdv) (qual := qual) Sc hr.hd en hl r xx
  have done : ∀ {σ' : L2.St} {H' : Hp} {v : V} {u : Value} {s' : Shared}, Inv (cxOf CX P w K mg base N qual scope fa cdv A1 out s H E) [] σ' H' s' → RelV v u → Q v H' → CE out P w H s Q u s' :=
    fun {σ' H' v u s'} J1 rv q => ⟨v, H', J1.os, J1.bare, J1.base, J1.hok, rv, q⟩
  refine wpAny_mono (ht.run [] s1 (start N vs) H _ I0 hq) (fun fl s' hs => ?_) fun e s' hs => hs
  match fl, hs with
  | .ret u, ⟨v, σ', H', J1, rv, q⟩ => exact done J1 rv q
  | .next, ⟨σ', H', J1, q⟩ => exact done (v := V.non) (u := Value.none) J1 rfl q
  | .brk, ⟨_, _, _, q⟩ => exact False.elim q
  | .cont, ⟨_, _, _, q⟩ => exact False.elim q
theorem fn_okG {γ : Type} (f : FS γ) {P : Program} {w : World} {K : PySem.W.Frag} {mg : Str → Option Value} {base : Heap} {x qual : Str} {params : Arguments} {bd : List Stmt} {scope : Scope} {dvs : List V} {kwd : List (Str × V)} {fa : Addr} {fd : FuncData} {N ps : List Str} {lv : Nat} (F : FunD K x qual params bd scope dvs kwd fa fd) (sc : FnScope N ps scope) (hn : ∀ g, (f.args g).length = ps.length) (hp : ∀ g, ∀ s ∈ f.args g, s.plain = true)
    (body : ∀ (cdv : Value) (A : Around) (outer : List Env) (s : Shared) (H : Hp) (E : XK), (fctx P w K mg base N qual scope fa cdv A outer s H E).A.guards = some [] → Room lv (fctx P w K mg base N qual scope fa cdv A outer s H E).A → ∀ (B : Base) (g : γ), f.pre g → f.preG g B.G →
      JS (fctx P w K mg base N qual scope fa cdv A outer s H E) B ⟨f.args g ++ List.replicate (N.length - (f.args g).length) .any, f.cells g⟩ bd (fend B f g)) : FnG P w K mg base CX0 (lv + 1) fa fd ps f.sp := by
  obtain ⟨oc, od, dV, kV, doc, pm, an, cdv, ct, osl, rfl, lk, hcd, _, _⟩ := F.ex
  refine fn_ofG lk hcd sc (fun vs H Q E h => ?_) (fun A outer s H vs Q E hgd hr h => ?_)
  · obtain ⟨g, B, _, _, hs, _⟩ := h
    obtain ⟨G, as, bs, z⟩ := hs
    rw [← hn g, z.tmp.len]
  · obtain ⟨g, B, hpre, hpg, hs, q⟩ := h
    refine ⟨tbOf (fctx P w K mg base N qual scope fa cdv A outer s H E) bd, PSs.nox pb0, ?_⟩
    refine tb_mono (body cdv A outer s H E hgd hr B g hpre hpg [] [] _ H (hs.enter (hp g))) (fun σ H h => q _ _ h) (fun v H h => q _ _ h) (fun _ _ h => h.elim) (fun _ _ h => h.elim)
/-! the head -/
theorem law_callG {P : Program} {w : World} {K : PySem.W.Frag} {mg mb : Str → Option Value} {CX : CXT} {k : Nat} {fa a : Addr} {fd : FuncData} {x : Str} {sp : Sp} {s1 : Shared} {vs : List Value} {ns : List Int}
    (kin : K.In s1.heap) (hns : s1.heap.Ns mainGlobals mg) (hbn : s1.heap.Ns builtinsNs mb) (hbb : ∀ x : Str, x ≠ "__name__" → mb x = bootBuiltins x) (nol : s1.heap.NoLimit) (hgn : s1.gens = #[])
    (ha : s1.heap.get? a = some { cls := .type "list", data := .seq vs.toArray }) (hi : IntsAre vs ns) (hl : ns.length ≤ sizeLine) (hr : Room k callerA)
    (F : ∀ base : Heap, K.In base → base.Ns mainGlobals mg → FnG P w K mg base CX k fa fd [x] sp) (hbind : ∀ (s : Shared) (u : Value), BindsTo s fd ⟨[u], []⟩ [(x, u)])
    (hsp : ∀ H : Hp, Only H → SqL K H a (ns.map V.int) → sp [.ref a] H (fun v _ => v = .bl true) fun _ _ _ => False)
    (hCX : ∀ H e s', CX [] H s1 (fun _ _ _ => False) e s' → False) :
    codeAny (model P w) callerA (.call (.ref fa) ⟨[.ref a], []⟩) (fun r s' => r = .ok (.ret (.bool true)) ∧ OldK s1.heap s'.heap ∧ s'.os = s1.os ∧ AllBare s'.gens) s1 := by
  have rv := vals_ints hi
  have lenV := hi.length
  have none0 : ∀ b : Addr, b ∉ ([] : List Addr) := fun b h => nomatch h
  have core : ∀ H : Hp, Only H → SqL K H a (ns.map V.int) → HOk P w H s1.heap → (∀ b, H b ≠ none → b = a) → (H a ≠ none → K.lookup a = none) →
      codeAny (model P w) callerA (.call (.ref fa) ⟨[.ref a], []⟩) (fun r s' => r = .ok (.ret (.bool true)) ∧ OldK s1.heap s'.heap ∧ s'.os = s1.os ∧ AllBare s'.gens) s1 := by
    intro H hO hS hok hA hK
    have noA : ∀ {b : Addr} {o : Obj} {es : Array DictEntry} {ep : Nat}, s1.heap.get? b = some o → o.data = .dict es ep → H b = none := fun {b o es ep} e d => by
      cases q : H b with
      | none => rfl
      | some u =>
        obtain rfl := hA b (by rw [q]; nofun)
        rw [ha] at e
        cases e
        exact absurd (show Data.seq vs.toArray _ = Data.dict es ep from d) (fun z => nomatch z)
    have nsK : ∀ {b : Addr} {m : Str → Option Value}, s1.heap.Ns b m → (hidT s1.heap H).Ns b m := fun {b m} ⟨o, es, ep, e, d, r⟩ => ⟨o, es, ep, hidT_get e (noA e d), d, r⟩
    have hKb : K.In (hidT s1.heap H) := fun b o e => hidT_get (kin b o e) (by
      cases q : H b with
      | none => rfl
      | some u =>
        obtain rfl := hA b (by rw [q]; nofun)
        rw [hK (by rw [q]; nofun)] at e
        cases e)
    obtain ⟨mc, l1, l2⟩ := nol
    have hM : Mod K mg (hidT s1.heap H) := ⟨hKb, nsK hns, ⟨mb, nsK hbn, hbb⟩, mc, nsK l1, l2⟩
    have en : Env0 P w K mg (hidT s1.heap H) callerA [] s1 H := ⟨rfl, hM, fun b o e => of_hidT e, Nat.le_of_eq (hidT_size _ _), trivial, fun b hb => absurd hb (none0 b), hok, .of_eq hgn⟩
    refine codeAny_mono ((F _ hKb (nsK hns)).go callerA [] s1 H ⟨[.ref a], []⟩ [.ref a] [.ref a] _ _ rfl hr en (hbind s1 (.ref a)) (.cons rfl .nil) (hsp H hO hS)) fun r s' h => ?_
    match r, h with
    | .error e, h => exact (hCX H e s' h).elim
    | .ok .next, h => exact False.elim h
    | .ok .brk, h => exact False.elim h
    | .ok .cont, h => exact False.elim h
    | .ok (.ret u), ⟨v, H', os, bare, un, hok', r', q⟩ =>
      obtain rfl : v = .bl true := q
      obtain rfl : u = Value.bool true := r'
      refine ⟨rfl, OldK.of_keep fun b o e => ?_, os, bare⟩
      cases q : H b with
      | none => exact un.keep b o e q (none0 b) (none0 b)
      | some u =>
        rcases hO b with z | ⟨ob, xs, z⟩
        · rw [q] at z
          cases z
        · obtain ⟨e1, _⟩ := hok b _ z
          obtain ⟨e2, _⟩ := hok' b _ (un.frzs b ob _ z)
          rw [e] at e1
          cases e1
          exact e2
  cases hk : K.lookup a with
  | some o =>
    have e := kin a o hk
    rw [ha] at e
    cases e
    exact core (fun _ => none) (fun _ => .inl rfl) (.inr ⟨_, vs.toArray, _, hk, rfl, rfl, rfl, by rw [List.size_toArray, lenV]; exact hl, by simpa using rv⟩) (fun b u z => nomatch (show (none : Option HO) = some u from z)) (fun b z => absurd rfl z) fun z => absurd rfl z
  | none =>
    refine core (fun b => if b = a then some (.frz { cls := .type "list", data := .seq vs.toArray } (.lst (ns.map V.int))) else none) (fun b => ?_) (.inl (.inr ⟨{ cls := .type "list", data := .seq vs.toArray }, if_pos rfl⟩)) (fun b u z => ?_) (fun b z => ?_) fun _ => hk
    · by_cases c : b = a
      · exact .inr ⟨_, _, if_pos c⟩
      · exact .inl (if_neg c)
    · by_cases c : b = a
      · subst c
        cases (if_pos rfl).symm.trans z
        exact ⟨ha, by rw [List.length_map]; exact hl, vs, _, rv, ha⟩
      · cases (if_neg c).symm.trans z
    · by_cases c : b = a
      · exact c
      · exact absurd (if_neg c) z
theorem walk_ofG {l : PySem.W.OpenLaw} {n k : Nat} {q : Program} {loose : List Str} {XP : (Str → Option Value) → Heap → Prop} {YP : World → Heap → Prop} {d : DefRec} {CX : CXT} {x : Str}
    (hn : l.most = some n) (hn2 : n ≤ sizeLine) (hdf : d.params.defaults = []) (hr : Room k callerA)
    (F : ∀ (w : World) (mg : Str → Option Value) (fa : Addr) (h : Heap), YP w h → h.Ns mainGlobals mg → mg d.name = some (.ref fa) →
      ∃ (K : PySem.W.Frag) (fd : FuncData) (sp : Sp), K.In h ∧ (∀ (s : Shared) (u : Value), BindsTo s fd ⟨[u], []⟩ [(x, u)]) ∧
        (∀ (H : Hp) (a : Addr) (ns : List Int), ns.length ≤ n → Only H → SqL K H a (ns.map V.int) → sp [.ref a] H (fun v _ => v = .bl true) fun _ _ _ => False) ∧
        ∀ base : Heap, K.In base → base.Ns mainGlobals mg → FnG l.prog w K mg base CX k fa fd [x] sp)
    (hCX : ∀ (H : Hp) (s : Shared) (e : Value) (s' : Shared), CX [] H s (fun _ _ _ => False) e s' → False) :
    PySem.W.WalkO q loose XP YP l.row.toRowW d [] (fun f vs => PySem.call f vs) := by
  refine Att.attach_call hn hdf fun w s₀ s1 mg mb fa o pm cd doc a vs ns G Y ho hd hcd hmg hobj hints hlen hg => ?_
  obtain ⟨K, fd, sp, kin, hb, hsp, hF⟩ := F w mg fa _ Y G.T.g hmg
  exact law_callG kin G.T.g G.T.b G.T.builtins G.T.nolimit hg hobj hints (Nat.le_trans hlen hn2) hr hF hb (fun H hO hS => hsp H a ns hlen hO hS) fun H e s' => hCX H s1 e s'
/-! ### data of no one kind; its text -/
def rawS (d : PyData) : Slot := .say (fun G u => Dq G u d)
/-- what a slot shows -/
def Rw (x : Slot) (d : PyData) : Prop := ∀ (G H : Hp) (u : V) (as : List Addr), SlI G H x u as → Dq G u d
theorem rw_val {α : Type} [DecidableEq α] [Datum α] {t : α} : Rw (.val t) (Datum.toD t) := fun _ _ _ _ h => sl_dq h
theorem rw_raw {d : PyData} : Rw (rawS d) d := fun _ _ _ _ h => by
  cases h with
  | say _ h => exact h
/-- text of data: a list or a tuple, short enough -/
def isDsp : PyData → Bool
  | .list _ | .tuple _ => true
  | _ => false
def reprG (d : PyData) : Option Str := if (isDsp d && d.showable && !d.hasDict && decide (d.depth ≤ 30) && decide (d.shown.length ≤ sizeLine)) = true then some d.shown else none
def rRepr (K : PySem.W.Frag) : List V → Hp → VK → Prop := fun xs H Q => ∃ v d r, xs = [v] ∧ Dp K H v d ∧ reprG d = some r ∧ Q (.str r) H
section
variable {X : Cx}
theorem cr_repr (hg : X.A.guards = some []) (hu : X.A.units + 64 < cLine) : CallR X (.builtin "repr") (rRepr X.K) := by
  intro pins s σ H xs us Q I r h
  obtain ⟨v, d, t, rfl, hd, ht, q⟩ := h
  obtain ⟨u, rfl, r1⟩ := vals1 r
  unfold reprG at ht
  split at ht
  · rename_i hc
    simp only [Bool.and_eq_true, Bool.not_eq_true', decide_eq_true_eq] at hc
    obtain ⟨⟨⟨⟨c1, c2⟩, c3⟩, c4⟩, c5⟩ := hc
    cases ht
    obtain ⟨as, hr⟩ := Dp.reads I d v u hd r1
    have ref : ∃ a, u = .ref a := by
      cases hr <;> first | exact ⟨_, rfl⟩ | cases c1
    obtain ⟨a, rfl⟩ := ref
    exact repr_of_reads' hr c2 (PyData.noDict_hsm c3) hg (by omega) (fun _ _ e => e) (fun h' w tk hk => ⟨.str d.shown, H, I.kept hk, ⟨w, rfl⟩, q⟩) c5
  · cases ht
end
section
variable {X : Cx} {B : Base} {S S1 S2 : Stt} {x y : Slot} {a b e : Expr} {es : List Expr} {pos : Pos}
theorem je_repr {p : Pos} {lv : Nat} {d : PyData} {t : Str} (hg : X.A.guards = some []) (hr : Room lv X.A) (hm : X.mg "repr" = none) (ha : JE X B S e S1 x) (hx : Rw x d) (ht : reprG d = some t) (hgl : Gl X "repr" := by rfl) (hst : starEach [e] X.env = (false, eval e X.env) :: starEach [] X.env := by rfl) :
    JE X B S (.Call (.Name "repr" p) [e] [] pos) S1 (.val t) :=
  je_callB (cr_repr hg hr.units) hm (by rfl) (ja_cons ha ja_nil hst) (oc1 fun T tv σ v H Q h q => by
    obtain ⟨G, as, bs, z⟩ := h
    obtain ⟨a1, a2, rfl, h1, z1⟩ := z.pop
    have hd := hx _ _ _ _ h1
    refine ⟨v, d, t, rfl, dq_dp (dq_mono z.sub hd), ht, q _ _ ?_⟩
    exact ⟨G, [] ++ a2, bs, .cons (.val (.str t)) z1.tmp, z1.cel, z1.slo, z1.nod, z1.fre, z1.gro, z1.new, z1.sub, z1.frm⟩) hgl (he := hst)
end
/-! lists of data of any kind, for good -/
inductive RwA : List Slot → List PyData → Prop where
  | nil : RwA [] []
  | non {ss : List Slot} {ds : List PyData} (h : RwA ss ds) : RwA (.v .non :: ss) (.none :: ds)
  | val {α : Type} [DecidableEq α] [Datum α] {t : α} {ss : List Slot} {ds : List PyData} (h : RwA ss ds) : RwA (.val t :: ss) (Datum.toD t :: ds)
  | raw {d : PyData} {ss : List Slot} {ds : List PyData} (h : RwA ss ds) : RwA (rawS d :: ss) (d :: ds)
theorem RwA.dq {G G' H : Hp} : ∀ {ss : List Slot} {ds : List PyData} {vs : List V} {as : List Addr}, RwA ss ds → SsI G H ss vs as → Ex G G' → DqAll G' vs ds
  | _, _, _, _, .nil, .nil, _ => .nil
  | _, _, _, _, @RwA.val α i1 i2 t ss ds h, .cons s1 s2, e => .cons (dq_mono e (@sl_dq α i1 i2 _ _ _ _ t s1)) (h.dq s2 e)
  | _, _, _, _, .raw h, .cons s1 s2, e => .cons (dq_mono e (rw_raw _ _ _ _ s1)) (h.dq s2 e)
  | _, _, _, _, .non h, .cons s1 s2, e => by
    cases s1
    exact .cons .non (h.dq s2 e)
section
end
end J
namespace J
open PySem PySem.Spec PyProof.Rows L2
open PySem.W (Datum)
/-! ### texts put together; data of no one kind made longer; refusals within lists -/
theorem RwA.app : ∀ {s1 s2 : List Slot} {d1 d2 : List PyData}, RwA s1 d1 → RwA s2 d2 → RwA (s1 ++ s2) (d1 ++ d2)
  | _, _, _, _, .nil, h => h
  | _, _, _, _, .non h1, h => .non (h1.app h)
  | _, _, _, _, @RwA.val α i1 i2 t ss ds h1, h => @RwA.val α i1 i2 t _ _ (h1.app h)
  | _, _, _, _, .raw h1, h => .raw (h1.app h)
section
end
end J
namespace J
open PySem PySem.Spec PyProof.Rows L2
open PySem.W (Datum)
/-! ### dicts by pairs, gone through; a named list's text -/
theorem Sta.tellT {B : Base} {S : Stt} {T : List Slot} {σ : L2.St} {tv : List V} {H : Hp} {q : Addr} {xs : List V} {y : Slot} (h : Sta B S T σ tv H) (hq : H q = some (.tup xs)) (hy : ∀ G, G q = some (.tup xs) → SlI G H y (.ref q) []) : Sta B S (y :: T) σ (.ref q :: tv) H := by
  obtain ⟨G, as, bs, z⟩ := h
  cases hg : G q with
  | some o =>
    have := z.sub _ _ hg
    rw [hq] at this
    cases this
    exact z.push (hy G hg)
  | none =>
    have ne : ∀ a ∈ as ++ bs, a ≠ q := fun a ha e => by
      subst e
      have : ∃ o, H a = some o ∧ NT o := (List.mem_append.mp ha).elim (fun h => z.tmp.nt a h) fun h => z.cel.nt a h
      obtain ⟨o, e, n⟩ := this
      rw [hq] at e
      cases e
      exact n xs rfl
    have eg : Ex G (upd G q (.tup xs)) := ex_upd (Ex.refl G) hg
    refine ⟨upd G q (.tup xs), [] ++ as, bs, .cons (hy _ upd_same) (z.tmp.mono eg fun _ _ => rfl), z.cel.mono eg fun _ _ => rfl, z.slo.mono eg, z.nod, fun a ha => ?_, z.gro.trans eg, fun a o ha => ?_, fun a o ha => ?_, z.frm⟩
    · rw [upd_ne (ne a ha)]
      exact z.fre a ha
    · by_cases e : a = q
      · subst e
        rw [upd_same] at ha
        exact .inr (.inr ⟨xs, (Option.some.inj ha).symm⟩)
      · rw [upd_ne e] at ha
        exact z.new a o ha
    · by_cases e : a = q
      · subst e
        rw [upd_same] at ha
        rw [hq, ha]
      · rw [upd_ne e] at ha
        exact z.sub a o ha
section
variable {β : Type} [DecidableEq β] [Datum β] {G H : Hp}
def fdtC (ob : Obj) (gs : List (List Key × V)) (m : List (P2 × β)) : Hp → HO → Prop := fun G o => o = .frz ob (.dT gs) ∧ tks m = gs.map (·.1) ∧ SsI G G (tss m) (gs.map (·.2)) []
theorem fdtC_mono (ob : Obj) (gs : List (List Key × V)) (m : List (P2 × β)) : MonoC (fdtC ob gs m) := fun G G' o e ⟨h1, h2, h3⟩ => ⟨h1, h2, h3.mono e fun a h => nomatch h⟩
end
section
variable {X : Cx} {B : Base} {S S1 S2 S3 : Stt} {x y z : Slot} {a b e o : Expr} {es : List Expr} {pos apos cpos : Pos} {D : FE} {rest : List Stmt} {kk : Nat} {p : Addr} {β : Type} [DecidableEq β] [Datum β] {m : List (P2 × β)} {key : P2}
theorem je_lockT (k : Nat) (hk : S.cs[k]? = some (p, .say (dtC m))) (h : ∀ ob gs, JE X B ⟨S.sl, S.cs.set k (p, .say (fdtC ob gs m))⟩ e ⟨S.sl, S.cs.set k (p, .say (fdtC ob gs m))⟩ x) : JE X B S e S x := fun T tv σ H Q hs q => by
  obtain ⟨G, as, bs, z⟩ := hs
  obtain ⟨oo, mm, hpp, hc, _, _, _, reb⟩ := z.cellW hk (by intro e; cases e)
  cases hc with
  | say _ hc =>
    obtain ⟨gs, rfl, hks, hss⟩ := hc
    refine pe1 (pe_lock pe0) ⟨p, .dT gs, hpp, trivial, fun od => ?_⟩
    have hnew : CeI G (upd H p (.frz od (.dT gs))) (.say (fdtC od gs m)) (.frz od (.dT gs)) [] := .say (fdtC_mono _ _ _) ⟨rfl, hks, hss⟩ fun _ z => nomatch z
    obtain ⟨bs', z3⟩ := reb hnew (List.Sublist.refl _)
    refine h od gs _ _ _ _ _ z3.sta fun v H' h2 => ?_
    obtain ⟨G2, as2, bs2, z4⟩ := h2
    have hk2 : (S.cs.set k (p, .say (fdtC od gs m)))[k]? = some (p, .say (fdtC od gs m)) := by
      obtain ⟨hl, _⟩ := List.getElem?_eq_some_iff.mp hk
      rw [List.getElem?_set, if_pos rfl, if_pos hl]
    obtain ⟨oo2, mm2, hpp2, hc2, _, _, _, reb2⟩ := z4.cellW hk2 (by intro e; cases e)
    cases hc2 with
    | say _ hc2 =>
      obtain ⟨rfl, _, hss2⟩ := hc2
      have hnew2 : CeI G2 (upd H' p (.dT gs)) (.say (dtC m)) (.dT gs) [] := .say (dtC_mono _) ⟨gs, rfl, hks, hss2⟩ fun _ z => nomatch z
      obtain ⟨bs3, z5⟩ := reb2 hnew2 (List.Sublist.refl _)
      refine ⟨hpp2, q _ _ ?_⟩
      have := z5.sta
      rwa [set_back hk] at this
theorem sl_pair {G H : Hp} {q : Addr} {t : P2} (h : G q = some (.tup ((kT t).map kV))) : SlI G H (.val t) (.ref q) [] := .val (.tup h (.cons (.int _) (.cons (.int _) .nil)))
theorem ji_dtkeys {tg : Expr} (k : Nat) {ob : Obj} {gs : List (List Key × V)} (ha : JE X B S e S1 (.v (.ref p))) (hk : S1.cs[k]? = some (p, .say (fdtC ob gs m))) : JI X B S tg e S1 [.v (.ref p)] ((m.map (·.1)).map Slot.val) (fun S => S.cs[k]? = some (p, .say (fdtC ob gs m))) := fun T tv σ H R hs q =>
  pi1 (pi_keys pe0) (ha _ _ _ _ _ hs fun v H1 h1 => by
    have e := h1.exact
    subst e
    have at_ : ∀ {S : Stt} {T : List Slot} {σ : L2.St} {tv : List V} {H : Hp}, S.cs[k]? = some (p, .say (fdtC ob gs m)) → Sta B S T σ tv H → H p = some (.frz ob (.dT gs)) ∧ tks m = gs.map (·.1) := fun {S T σ tv H} hk h => by
      obtain ⟨G, as, bs, z⟩ := h
      obtain ⟨oo, mm, hpp, hc, _, _, _, _⟩ := z.cellW hk (by intro e; cases e)
      cases hc with
      | say _ hc =>
        obtain ⟨rfl, hks, _⟩ := hc
        exact ⟨hpp, hks⟩
    obtain ⟨hp1, hks⟩ := at_ hk h1
    have hl : gs.length = m.length := by
      have := congrArg List.length hks
      unfold tks at this
      rw [List.length_map, List.length_map] at this
      exact this.symm
    refine ⟨p, ob, rfl, .inr ⟨gs, hp1, q (Itkt p ob gs) [.ref p] H1 rfl h1 ⟨fun S T σ tv H i s hS hi h => ?_, fun S T σ tv H hS h => ?_⟩⟩⟩
    · have hpp := (at_ hS h).1
      rw [List.getElem?_map, List.getElem?_map] at hi
      cases qe : m[i]? with
      | none => rw [qe] at hi; cases hi
      | some pr =>
        rw [qe] at hi
        cases hi
        obtain ⟨hlt, _⟩ := List.getElem?_eq_some_iff.mp qe
        refine ⟨⟨hpp, by omega⟩, fun v H' hy => ?_⟩
        obtain ⟨rfl, k', v', qa, hg, rfl, hq⟩ := hy
        have e1 : (tks m)[i]? = some (kT pr.1) := by unfold tks; rw [List.getElem?_map, qe]; rfl
        rw [hks, List.getElem?_map, hg] at e1
        have e2 : k' = kT pr.1 := Option.some.inj e1
        subst e2
        exact h.tellT hq fun G hG => sl_pair hG
    · have hpp := (at_ hS h).1
      exact ⟨hpp, by rw [List.length_map, List.length_map]; omega⟩)
theorem je_dgetFT (k : Nat) {t : β} {i : Expr} {ob : Obj} {gs : List (List Key × V)} (hr : Room kk X.A) (ho : JE X B S o S1 (.v (.ref p))) (hi : JE X B S1 i S2 (.val key)) (hk : S2.cs[k]? = some (p, .say (fdtC ob gs m))) (ht : tget m key = some t) (hns : NoSl i := by exact fun _ _ => rfl) : JE X B S (.Subscript o i pos) S2 (.val t) := fun T tv σ H Q h q =>
  pe1 (pe_dget (hu_of hr) pe0 pe0 hns) (ho _ _ _ _ _ h fun v1 H1 h1 => by
    have e := h1.exact
    subst e
    refine hi _ _ _ _ _ h1 fun v2 H2 h2 => ?_
    obtain ⟨l, rfl, hb⟩ := h2.pairA
    obtain ⟨G, as, bs, z⟩ := h2.drop.drop
    obtain ⟨oo, mm, hpp, hc, _, _, _, _⟩ := z.cellW hk (by intro e; cases e)
    cases hc with
    | say _ hc =>
      obtain ⟨rfl, hks, hss⟩ := hc
      rcases tget_rel key hks hss with ⟨e1, e2⟩ | ⟨t', u, e1, e2, su⟩
      · rw [e1] at ht; cases ht
      · rw [e1] at ht
        cases ht
        exact ⟨p, u, rfl, .inr ⟨gs, kT key, l, .inr ⟨ob, hpp⟩, rfl, hb, e2.symm⟩, q _ _ (z.push (su.mono (Ex.refl G) fun a h => nomatch h))⟩)
/-- the text of a named list -/
theorem je_reprC {α : Type} [DecidableEq α] [Datum α] {xs : List α} {pp : Pos} {lv : Nat} {t : Str} (k : Nat) (hg : X.A.guards = some []) (hr : Room lv X.A) (hm : X.mg "repr" = none) (ha : JE X B S e S1 (.v (.ref p))) (hk : S1.cs[k]? = some (p, .lst (xs.map Slot.val))) (ht : reprG (Datum.toD xs) = some t) (hgl : Gl X "repr" := by rfl) (hst : starEach [e] X.env = (false, eval e X.env) :: starEach [] X.env := by rfl) :
    JE X B S (.Call (.Name "repr" pp) [e] [] pos) S1 (.val t) :=
  je_callB (cr_repr hg hr.units) hm (by rfl) (ja_cons ha ja_nil hst) (oc1 fun T tv σ v H Q h q => by
    have ev := h.exact
    subst ev
    obtain ⟨G, as, bs, z⟩ := h.drop
    obtain ⟨oo, mm, hpp, hc, _, _, _, _⟩ := z.cellW hk (by intro e; cases e)
    cases hc with
    | lst hss =>
      exact ⟨.ref p, Datum.toD xs, t, rfl, .lst (.of hpp) (dqAll_dp (dqAll_mono z.sub (ss_dqAll hss))), ht, q _ _ (z.push (.val (.str t)))⟩) hgl (he := hst)
end
end J
namespace J
universe u w
open PySem PySem.Spec PyProof.Rows L2
open PySem.W (Datum)
section
variable {X : Cx} {B : Base} {S S1 S2 S3 : Stt} {x y z : Slot} {a b e o tg : Expr} {es : List Expr} {pos apos : Pos} {D : FE} {rest : List Stmt}
/-! ### loops over things of any slot -/
theorem js_forEV {π ι α : Type} {ei : α → Slot} {xs : List α} {f : ι → α → Option ι} {Sf : π → ι → Stt} {Sb : π → ι → α → Stt} {s0 sE : ι} {tg iter : Expr} {body : List Stmt} {zs : List Slot} {ok : Stt → Prop} (hf : forM f xs s0 = some sE)
    (hi : JI X B S tg iter S1 zs (xs.map ei) ok) (h0 : ∀ T tv σ H, Sta B S1 T σ tv H → ∃ q, Sta B (Sf q s0) T σ tv H) (hok : ∀ q s, ok (Sf q s))
    {ws : List Nat} (hg : ∀ q s x, JG X B (Sf q s) tg (ei x) (Sb q s x) ws) (hb : ∀ q s x s', x ∈ xs → f s x = some s' → JS X B (Sb q s x) body { nx := toE B fun q => Sf q s', rt := D.rt, ct := toE B fun q => Sf q s' })
    (k : ∀ q, JS X B (Sf q sE) rest D) (hc : X.calm = true := by rfl) (hp : PassesOwn (model X.prog X.w) X.A X.env X.xe := by exact PassesOwn.never) (hs : ∀ x, foldedSetIterable iter X.env x = pure x := by intro _; rfl) : JS X B S (.For tg iter body [] pos :: rest) D := by
  refine js_step (ps_for hp hc pi0 pg0 pb0 hs) fun T tv σ H h => hi _ _ _ _ _ h fun J zv H1 hl h1 wk => ?_
  refine ⟨fun i m σ H => m = xs.length - i ∧ i ≤ xs.length ∧ ∃ s, forM f (xs.drop i) s = some sE ∧ ∃ q, Sta B (Sf q s) (zs ++ T) σ (zv ++ tv) H, ⟨xs.length, by simp, Nat.zero_le _, s0, hf, h0 _ _ _ _ h1⟩, ?_⟩
  rintro i m σ H ⟨rfl, hle, s, hs', q, hS⟩
  by_cases hlt : i < xs.length
  · rw [List.drop_eq_getElem_cons hlt] at hs'
    refine bnd hs' fun s2 e1 e2 => .inr ?_
    have hx : (xs.map ei)[i]? = some (ei xs[i]) := by rw [List.getElem?_map, List.getElem?_eq_getElem hlt]; rfl
    obtain ⟨w1, w2⟩ := wk.go _ _ _ _ _ i _ (hok q s) hx hS
    refine ⟨w1, toE B (fun q => Sf q s2) (zs ++ T) (zv ++ tv), fun σ' H' g => ⟨xs.length - (i + 1), by omega, rfl, hlt, s2, e2, g⟩, fun v H' y => ?_⟩
    exact hg q s xs[i] _ _ _ _ _ _ (w2 v H' y) fun σ3 H3 _ g3 => ⟨fun pins st I => thn ((hb q s xs[i] s2 (List.getElem_mem hlt) e1 _ _ _ _ g3).run pins st I) fun fl s2 q => by
        cases fl with
        | next => exact q
        | cont => exact q
        | brk => obtain ⟨_, _, _, z⟩ := q; exact z.elim
        | ret u => exact q⟩
  · have e : i = xs.length := by omega
    subst e
    rw [List.drop_length] at hs'
    cases hs'
    have st := wk.stop _ _ _ _ _ (hok _ _) hS
    rw [List.length_map] at st
    exact .inl ⟨st, k q _ _ _ _ (Sta.drops hl hS)⟩
end
/-! ### lists of things of our own -/
section
variable {X : Cx} {B : Base} {S S1 S2 S3 : Stt} {x y z : Slot} {a b e o tg : Expr} {es : List Expr} {pos apos : Pos} {D : FE} {rest : List Stmt} {T : List Slot} {σ : L2.St} {tv : List V} {H : Hp} {p : Addr} {cs : List Cel}
/-- a cell that is held as a temporary thing is laid back -/
theorem Sta.back (k : Nat) {c : Cel} {q0 : Addr} {c0 : Cel} (hk : S.cs[k]? = some (q0, c0)) (hg : c0 = .gone) (h : Sta B S (.own c :: T) σ (.ref p :: tv) H) : Sta B ⟨S.sl, S.cs.set k (p, c)⟩ T σ tv H := by
  subst hg
  obtain ⟨G, as0, bs, z⟩ := h
  obtain ⟨a1, a2, rfl, g, z'⟩ := z.pop
  cases g with
  | @own _ _ o m hp hc =>
    obtain ⟨b, cb, pb⟩ := CsI.puts (Pt.cons k hk .nil) z'.cel (CsI.cons hp hc .nil)
    have pm : (a2 ++ b).Perm ((p :: m) ++ a2 ++ bs) := by
      have e1 : (a2 ++ b).Perm (a2 ++ ((p :: (m ++ [])) ++ bs)) := List.Perm.append_left _ pb
      rw [List.append_nil] at e1
      refine e1.trans ?_
      rw [← List.append_assoc]
      exact List.Perm.append_right _ List.perm_append_comm
    exact ⟨G, a2, b, z'.tmp, cb, z.slo, pm.nodup_iff.mpr z.nod, fun a ha => z.fre a (pm.mem_iff.mp ha), z.gro, z.new, z.sub, z.frm⟩
theorem Sta.lift (k : Nat) {c : Cel} (hk : S.cs[k]? = some (p, c)) (hg : c ≠ .gone) (h : Sta B S T σ tv H) : Sta B ⟨S.sl, S.cs.set k (p, .gone)⟩ (.own c :: T) σ (.ref p :: tv) H := (h.push (x := .v (.ref p)) (v := .ref p) fun _ _ => .v).own k hk hg
theorem ji_listV {its : List Slot} {ok : Stt → Prop} (ha : JE X B S e S1 x) (hl : Lv X.K B S1 x its) (hok : ∀ S, ok S → Lv X.K B S x its) : JI X B S tg e S1 [x] its ok := fun T tv σ H R hs q =>
  pi1 (pi_list pe0) (ha _ _ _ _ _ hs fun v H1 h1 => by
    obtain ⟨G, as, bs, z⟩ := id h1
    obtain ⟨p, vs, rfl, hr, hss⟩ := hl z
    refine ⟨p, rfl, ⟨vs, hr⟩, q (Itl X.K p) [.ref p] H1 rfl h1 ⟨fun S T σ tv H i s hS hi h => ?_, fun S T σ tv H hS h => ?_⟩⟩
    · obtain ⟨G, as, bs, z⟩ := id h
      obtain ⟨p', vs', e, hr', hss'⟩ := hok S hS z
      cases e
      obtain ⟨u, hu, su⟩ := hss'.get i hi
      refine ⟨⟨vs', u, hr', hu⟩, fun v H' hy => ?_⟩
      obtain ⟨rfl, hy⟩ := hy
      have e := hy vs' (hr')
      rw [hu] at e
      cases e
      exact z.push su
    · obtain ⟨G, as, bs, z⟩ := id h
      obtain ⟨p', vs', e, hr', hss'⟩ := hok S hS z
      cases e
      exact ⟨vs', hr', Nat.le_of_eq hss'.len.symm⟩)
end
end J
namespace J
open PySem PySem.Spec PyProof.Rows L2
open PySem.W (Datum)
/-! ### a queue of pairs that are lists -/
section
end
end J
namespace J
universe u w
open PySem PySem.Spec PyProof.Rows L2
open PySem.W (Datum)
/-! ### parts taken in again where their things stand; states changed behind and ahead of readings -/
section
variable {X : Cx} {B : Base} {S S1 S2 S3 : Stt} {x y z : Slot} {a b e o tg : Expr} {es : List Expr} {pos apos : Pos} {D : FE} {rest : List Stmt} {T : List Slot} {σ : L2.St} {tv : List V} {H : Hp} {p q : Addr} {c d : Cel} {v : V}
theorem get_set_ne {α : Type _} {l : List α} {i j : Nat} {x y : α} (h : i ≠ j) (e : l[j]? = some y) : (l.set i x)[j]? = some y := by rw [List.getElem?_set_ne h]; exact e
theorem Le.trans {S S1 S2 : Stt} (h1 : Le B S S1) (h2 : Le B S1 S2) : Le B S S2 := fun _ _ _ _ h => h2 _ _ _ _ (h1 _ _ _ _ h)
theorem js_le (l : Le B S S1) (h : JS X B S1 rest D) : JS X B S rest D := fun T tv σ H hs => h _ _ _ _ (l _ _ _ _ hs)
/-! ### a thing of our own, or a plain one, stored in a thing -/
variable {ks : List Key} {ss : List Slot} {key : Str} {kk : Nat}
variable {fs : List (Str × Slot)} {f m : Str} {C : Addr}
/-! ### lists: plain things among owned ones -/
end
/-! ### lists of things of our own, of one kind -/
section
variable {α : Type} {f : α → Cel} {xs ys : List α} {X : Cx} {B : Base} {S S1 S2 S3 : Stt} {x y z : Slot} {a b e o tg : Expr} {es : List Expr} {pos apos : Pos} {D : FE} {rest : List Stmt} {T : List Slot} {σ : L2.St} {tv : List V} {H : Hp} {p q : Addr} {v : V} {n : Nat} {i : Int}
def mlC (f : α → Cel) (xs : List α) : Cel := .lst (xs.map fun x => .own (f x))
end
/-! ### defs that promise this or that -/
/-! ### calls of methods and makers with keywords -/
section
end
end J
namespace J
open PySem PySem.Spec PyProof.Rows L2
open PySem.W (Datum)
section
end
end J
namespace J
open PySem PySem.Spec PyProof.Rows L2
open PySem.W (Datum)
/-! ### sorted(d), whole numbers as keys, however many -/
/-! ### sorted(d) -/
section
end
/-! ### dicts of things of our own -/
section
end
end J
namespace J
open PySem PySem.Spec PyProof.Rows L2
open PySem.W (Datum)
section
end
end J
namespace J
open PySem PySem.Spec PyProof.Rows L2
open PySem.W (Datum)
section
end
end J
namespace J
end J
namespace J
open PySem PySem.Spec PyProof.Rows L2
open PySem.W (Datum)
section
end
end J
namespace J
open PySem PySem.Spec PyProof.Rows L2
open PySem.W (Datum)
/-! ### lists of things of many kinds, told -/
section
end
/-! ### what a value is now, by all of the heap -/
mutual
inductive Tl (cs : List (Addr × Cel)) : Slot → PyData → Prop where
  | val {α : Type} [DecidableEq α] [Datum α] {t : α} : Tl cs (.val t) (Datum.toD t)
  | non : Tl cs (.v .non) .none
  | own {c : Cel} {d : PyData} : TlC cs c d → Tl cs (.own c) d
  | ref (k : Nat) {p : Addr} {c : Cel} {d : PyData} : cs[k]? = some (p, c) → TlC cs c d → Tl cs (.v (.ref p)) d
inductive TlC (cs : List (Addr × Cel)) : Cel → PyData → Prop where
  | lst {ss : List Slot} {ds : List PyData} : Tls cs ss ds → TlC cs (.lst ss) (.list ds)
inductive Tls (cs : List (Addr × Cel)) : List Slot → List PyData → Prop where
  | nil : Tls cs [] []
  | cons {s : Slot} {d : PyData} {ss : List Slot} {ds : List PyData} : Tl cs s d → Tls cs ss ds → Tls cs (s :: ss) (d :: ds)
end
section
variable {cs : List (Addr × Cel)}
variable {G H : Hp}
mutual
theorem Tl.dq {bs : List Addr} (hc : CsI G H cs bs) (e : Ex G H) : ∀ {s : Slot} {d : PyData} {u : V} {as : List Addr}, Tl cs s d → SlI G H s u as → Dq H u d
  | _, _, _, _, @Tl.val _ α i1 i2 t, h => by cases h with | val h => exact dq_mono e h
  | _, _, _, _, .non, .v => .non
  | _, _, _, _, .own t, .own hp h => TlC.dq hc e t hp h
  | _, _, _, _, .ref k hk t, .v => by
    obtain ⟨l, o, m, r, _, hp, h, _⟩ := CsI.at k hc hk (by rintro rfl; cases t)
    exact TlC.dq hc e t hp h
theorem TlC.dq {bs : List Addr} (hc : CsI G H cs bs) (e : Ex G H) : ∀ {c : Cel} {d : PyData} {p : Addr} {o : HO} {as : List Addr}, TlC cs c d → H p = some o → CeI G H c o as → Dq H (.ref p) d
  | _, _, _, _, _, .lst t, hp, .lst h => .lst hp (Tls.dq hc e t h)
theorem Tls.dq {bs : List Addr} (hc : CsI G H cs bs) (e : Ex G H) : ∀ {ss : List Slot} {ds : List PyData} {us : List V} {as : List Addr}, Tls cs ss ds → SsI G H ss us as → DqAll H us ds
  | _, _, _, _, .nil, .nil => .nil
  | _, _, _, _, .cons t ts, .cons h hs => .cons (Tl.dq hc e t h) (Tls.dq hc e ts hs)
end
end
/-- data that are no places -/
inductive Scal : PyData → Prop where
  | non : Scal .none
  | bl (b : Bool) : Scal (.bool b)
  | int (i : Int) : Scal (.int i)
  | str (x : Str) : Scal (.str x)
theorem Scal.any {d : PyData} {G G' : Hp} {v : V} (s : Scal d) (h : Dq G v d) : Dq G' v d := by
  cases s with
  | non => cases h; exact .non
  | bl b => cases h; exact .bl b
  | int i => cases h; exact .int i
  | str x => cases h; exact .str x
section
/-! ### parts of such lists -/
end
end J
namespace J
open PySem PySem.Spec PyProof.Rows L2
open PySem.W (Datum)
section
end
end J
namespace J
open PySem PySem.Spec PyProof.Rows L2
open PySem.W (Datum)
section
end
section
end
end J
namespace J
open PySem PySem.Spec PyProof.Rows L2
open PySem.W (Datum)
section
end
end J
namespace J
open PySem PySem.Spec PyProof.Rows L2
open PySem.W (Datum)
/-! ### data of no one kind: looked at -/
section
variable {X : Cx} {B : Base} {S S1 S2 S3 : Stt} {x y z : Slot} {a b e o : Expr} {es : List Expr} {pos apos cpos : Pos} {D : FE} {rest : List Stmt} {k lv : Nat} {p : Addr} {d d2 : PyData}
theorem sl_raw {G H : Hp} {v : V} {as : List Addr} (h : SlI G H (rawS d) v as) : Dq G v d ∧ as = [] := by
  cases h with
  | say _ h => exact ⟨h, rfl⟩
/-! ### calls that only look, of data -/
mutual
inductive TlR (cs : List (Addr × Cel)) : Slot → PyData → Prop where
  | val {α : Type} [DecidableEq α] [Datum α] {t : α} : TlR cs (.val t) (Datum.toD t)
  | raw {d : PyData} : TlR cs (rawS d) d
  | non : TlR cs (.v .non) .none
  | own {c : Cel} {d : PyData} : TlRC cs c d → TlR cs (.own c) d
  | ref (k : Nat) {p : Addr} {c : Cel} {d : PyData} : cs[k]? = some (p, c) → TlRC cs c d → TlR cs (.v (.ref p)) d
inductive TlRC (cs : List (Addr × Cel)) : Cel → PyData → Prop where
  | lst {ss : List Slot} {ds : List PyData} : TlRs cs ss ds → TlRC cs (.lst ss) (.list ds)
inductive TlRs (cs : List (Addr × Cel)) : List Slot → List PyData → Prop where
  | nil : TlRs cs [] []
  | cons {s : Slot} {d : PyData} {ss : List Slot} {ds : List PyData} : TlR cs s d → TlRs cs ss ds → TlRs cs (s :: ss) (d :: ds)
end
section
variable {cs : List (Addr × Cel)}
variable {G H : Hp}
mutual
theorem TlR.dq {bs : List Addr} (hc : CsI G H cs bs) (e : Ex G H) : ∀ {s : Slot} {d : PyData} {u : V} {as : List Addr}, TlR cs s d → SlI G H s u as → Dq H u d
  | _, _, _, _, @TlR.val _ α i1 i2 t, h => by cases h with | val h => exact dq_mono e h
  | _, _, _, _, .raw, h => dq_mono e (sl_raw h).1
  | _, _, _, _, .non, .v => .non
  | _, _, _, _, .own t, .own hp h => TlRC.dq hc e t hp h
  | _, _, _, _, .ref k hk t, .v => by
    obtain ⟨l, o, m, r, _, hp, h, _⟩ := CsI.at k hc hk (by rintro rfl; cases t)
    exact TlRC.dq hc e t hp h
theorem TlRC.dq {bs : List Addr} (hc : CsI G H cs bs) (e : Ex G H) : ∀ {c : Cel} {d : PyData} {p : Addr} {o : HO} {as : List Addr}, TlRC cs c d → H p = some o → CeI G H c o as → Dq H (.ref p) d
  | _, _, _, _, _, .lst t, hp, .lst h => .lst hp (TlRs.dq hc e t h)
theorem TlRs.dq {bs : List Addr} (hc : CsI G H cs bs) (e : Ex G H) : ∀ {ss : List Slot} {ds : List PyData} {us : List V} {as : List Addr}, TlRs cs ss ds → SsI G H ss us as → DqAll H us ds
  | _, _, _, _, .nil, .nil => .nil
  | _, _, _, _, .cons t ts, .cons h hs => .cons (TlR.dq hc e t h) (TlRs.dq hc e ts hs)
end
end
end
end J
namespace J
open PySem
end J
namespace J
open PySem PySem.Spec PyProof.Rows L2
open PySem.W (Datum)
/-! ### sorted(d), pairs as keys -/
section
end
end J
namespace J
open PySem PySem.Spec PyProof.Rows L2
open PySem.W (Datum)
/-! ### xs[::c], c one or minus one -/
end J
namespace J
open PySem PySem.Spec PyProof.Rows L2
open PySem.W (Datum)
/-! ### methods that refuse -/
section
end
end J
namespace J
open PySem PySem.Spec PyProof.Rows L2
open PySem.W (Datum)
end J
namespace J
open PySem PySem.Spec PyProof.Rows L2
open PySem.W (Datum)
/-! ### a list, told or not, against an empty one; or -/
section
end
end J
namespace J
open PySem PySem.Spec PyProof.Rows L2
open PySem.W (Datum)
/-! ### lists of things of our own, gone through: where each stands is known -/
section
variable {B : Base} {S : Stt}
theorem Sta.foldA {T : List Slot} {σ : L2.St} {tv : List V} {H : Hp} {q : Addr} {v : V} {c d : Cel} (h : Sta B S (.own c :: T) σ (v :: tv) H) (k j : Nat) (hj : c.nth j = some (.v (.ref q))) (hk : S.cs[k]? = some (q, d)) (hg : d ≠ .gone) : Sta B ⟨S.sl, S.cs.set k (q, .gone)⟩ (.own (c.sub j (.ownA q d)) :: T) σ (v :: tv) H := by
  obtain ⟨G, as, bs, z⟩ := h
  obtain ⟨a1, a2, rfl, g, z'⟩ := z.pop
  cases g with
  | @own _ p o m hp hc =>
    obtain ⟨l, od, md, r, rfl, hq, hd, reb⟩ := z.cel.at k hk hg
    obtain ⟨b1, u, m1, b2, rfl, hs1, reb2⟩ := hc.part j hj
    cases hs1 with
    | v =>
      have c2 := reb2 (.ownA hq hd)
      have pm : ((p :: (b1 ++ (q :: md) ++ b2)) ++ a2 ++ (l ++ r)).Perm ((p :: (b1 ++ [] ++ b2)) ++ a2 ++ (l ++ (q :: md) ++ r)) := by
        rw [List.append_nil]
        have e1 : ((p :: (b1 ++ (q :: md) ++ b2)) ++ a2 ++ (l ++ r)).Perm ((q :: md) ++ ((p :: (b1 ++ b2)) ++ a2 ++ (l ++ r))) := by
          have f1 : (p :: (b1 ++ (q :: md) ++ b2)).Perm ((q :: md) ++ (p :: (b1 ++ b2))) := by
            have g1 : (b1 ++ (q :: md) ++ b2).Perm ((q :: md) ++ (b1 ++ b2)) := by
              rw [← List.append_assoc]
              exact List.Perm.append_right _ List.perm_append_comm
            have g2 : (p :: ((q :: md) ++ (b1 ++ b2))).Perm ((q :: md) ++ (p :: (b1 ++ b2))) := List.perm_middle.symm
            exact (List.Perm.cons p g1).trans g2
          have f2 := List.Perm.append_right (l ++ r) (List.Perm.append_right a2 f1)
          rw [List.append_assoc (q :: md), List.append_assoc (q :: md)] at f2
          exact f2
        refine e1.trans ?_
        have e2 : (l ++ (q :: md) ++ r).Perm ((q :: md) ++ (l ++ r)) := by
          rw [← List.append_assoc]
          exact List.Perm.append_right _ List.perm_append_comm
        have e3 := List.Perm.append_left ((p :: (b1 ++ b2)) ++ a2) e2
        refine List.Perm.trans ?_ e3.symm
        rw [← List.append_assoc, ← List.append_assoc ((p :: (b1 ++ b2)) ++ a2)]
        exact List.Perm.append_right _ List.perm_append_comm
      exact ⟨G, _, l ++ r, .cons (.own hp c2) z'.tmp, (reb (Ex.refl G) fun _ _ => rfl).2 q, z.slo, pm.nodup_iff.mpr z.nod, fun a ha => z.fre a (pm.mem_iff.mp ha), z.gro, z.new, z.sub, z.frm⟩end
section
variable {X : Cx} {B : Base} {S S1 S2 S3 : Stt} {x y z : Slot} {a b e o tg : Expr} {es : List Expr} {pos apos : Pos} {D : FE} {rest : List Stmt} {T : List Slot} {σ : L2.St} {tv : List V} {H : Hp} {p q : Addr} {c d : Cel} {v : V}
theorem Sta.foldAtA (k k2 j : Nat) (hk : S.cs[k]? = some (p, c)) (hj : c.nth j = some (.v (.ref q))) (hk2 : S.cs[k2]? = some (q, d)) (hne : k ≠ k2) (hgc : c ≠ .gone) (hg : d ≠ .gone) (h : Sta B S T σ tv H) : Sta B ⟨S.sl, (S.cs.set k (p, c.sub j (.ownA q d))).set k2 (q, .gone)⟩ T σ tv H := by
  have h1 := h.lift k hk hgc
  have h2 := h1.foldA k2 j hj (S := ⟨S.sl, S.cs.set k (p, .gone)⟩) (get_set_ne hne hk2) hg
  obtain ⟨hlt, _⟩ := List.getElem?_eq_some_iff.mp hk
  have h3 := h2.back k (S := ⟨S.sl, (S.cs.set k (p, .gone)).set k2 (q, .gone)⟩) (q0 := p) (c0 := .gone) (get_set_ne (Ne.symm hne) (by rw [List.getElem?_set, if_pos rfl, if_pos hlt])) rfl
  have e : ((S.cs.set k (p, Cel.gone)).set k2 (q, Cel.gone)).set k (p, c.sub j (.ownA q d)) = (S.cs.set k (p, c.sub j (.ownA q d))).set k2 (q, .gone) := by
    rw [List.set_comm _ _ (Ne.symm hne), List.set_set]
  have h4 : Sta B ⟨S.sl, ((S.cs.set k (p, Cel.gone)).set k2 (q, Cel.gone)).set k (p, c.sub j (.ownA q d))⟩ T σ tv H := h3
  rw [e] at h4
  exact h4
theorem Sta.openAt (k j : Nat) (hk : S.cs[k]? = some (p, c)) (hj : c.nth j = some (.ownA q d)) (hs : Sta B S T σ tv H) : Sta B ⟨S.sl, S.cs.set k (p, c.sub j (.v (.ref q))) ++ [(q, d)]⟩ T σ tv H := by
  obtain ⟨G, as, bs, z⟩ := hs
  have hg : c ≠ .gone := by intro e; subst e; cases hj
  obtain ⟨l, o, m, r, rfl, hp, hc, reb⟩ := z.cel.at k hk hg
  obtain ⟨a1, u, m1, a2, rfl, hs1, reb2⟩ := hc.part j hj
  cases hs1 with
  | @ownA _ q od mq hq hd =>
    have c2 := (reb (Ex.refl G) fun _ _ => rfl).1 hp (reb2 (.v : SlI G H (.v (.ref q)) (.ref q) []))
    have c3 := c2.app (.cons hq hd .nil)
    have pm : (l ++ p :: (a1 ++ [] ++ a2) ++ r ++ (q :: (mq ++ []))).Perm (l ++ p :: (a1 ++ q :: mq ++ a2) ++ r) := by
      simp only [List.append_nil, List.append_assoc, List.cons_append]
      refine List.Perm.append_left l (List.Perm.cons p (List.Perm.append_left a1 ?_))
      have e1 : ((a2 ++ r) ++ (q :: mq)).Perm ((q :: mq) ++ (a2 ++ r)) := List.perm_append_comm
      simpa only [List.append_assoc, List.cons_append] using e1
    have pm2 := List.Perm.append_left as pm
    exact ⟨G, as, _, z.tmp, c3, z.slo, pm2.nodup_iff.mpr z.nod, fun a ha => z.fre a (pm2.mem_iff.mp ha), z.gro, z.new, z.sub, z.frm⟩
end
section
variable {α : Type} {f : α → Cel} {xs ys : List α} {qs : List Addr} {X : Cx} {B : Base} {S S1 S2 S3 : Stt} {x y z : Slot} {a b e o tg : Expr} {es : List Expr} {pos apos : Pos} {D : FE} {rest : List Stmt} {T : List Slot} {σ : L2.St} {tv : List V} {G H : Hp} {p q : Addr} {v : V} {n : Nat} {i : Int}
def mlAs (f : α → Cel) (qs : List Addr) (xs : List α) : List Slot := List.zipWith (fun q x => Slot.ownA q (f x)) qs xs
/-- what there is not -/
def badC : Cel := .lst [.say fun _ _ => False]
theorem bad_out {k : Nat} (hk : S.cs[k]? = some (p, badC)) (h : Sta B S T σ tv H) : False := by
  obtain ⟨G, as, bs, z⟩ := h
  obtain ⟨l, o, m, r, rfl, hp, hc, reb⟩ := z.cel.at k hk (by nofun)
  cases hc with
  | lst hs =>
    cases hs with
    | cons c _ =>
      cases c with
      | say _ c => exact c
/-- a list of things of our own: where each stands is told by qs -/
def mlA (f : α → Cel) (qs : List Addr) (xs : List α) : Cel := if qs.length = xs.length then .lst (mlAs f qs xs) else badC
/-- .. the n-th, at q, being out -/
def mlAH (f : α → Cel) (qs : List Addr) (xs : List α) (n : Nat) (q : Addr) : Cel := if qs.length = xs.length then .lst ((mlAs f qs xs).set n (.v (.ref q))) else badC
theorem mlA_ok (h : qs.length = xs.length) : mlA f qs xs = .lst (mlAs f qs xs) := if_pos h
theorem mlA_no (h : ¬ qs.length = xs.length) : mlA f qs xs = badC := if_neg h
theorem ss_expose : ∀ {xs : List α} {vs : List V} {as : List Addr}, SsI G H (xs.map fun x => Slot.own (f x)) vs as → ∃ qs : List Addr, qs.length = xs.length ∧ SsI G H (mlAs f qs xs) vs as
  | [], _, _, h => by cases h; exact ⟨[], rfl, .nil⟩
  | x :: xs, _, _, h => by
    cases h with
    | cons h1 h2 =>
      obtain ⟨qs, hl, h3⟩ := ss_expose h2
      cases h1 with
      | @own _ q o m hq hc => exact ⟨q :: qs, by rw [List.length_cons, List.length_cons, hl], .cons (.ownA hq hc) h3⟩
theorem ss_hide : ∀ {xs : List α} {qs : List Addr} {vs : List V} {as : List Addr}, qs.length = xs.length → SsI G H (mlAs f qs xs) vs as → SsI G H (xs.map fun x => Slot.own (f x)) vs as ∧ vs = qs.map V.ref
  | [], [], _, _, _, h => by cases h; exact ⟨.nil, rfl⟩
  | [], _ :: _, _, _, e, _ => by cases e
  | _ :: _, [], _, _, e, _ => by cases e
  | x :: xs, q :: qs, _, _, e, h => by
    cases (show SsI G H (Slot.ownA q (f x) :: mlAs f qs xs) _ _ from h) with
    | cons h1 h2 =>
      obtain ⟨h3, h4⟩ := ss_hide (Nat.succ.inj e) h2
      cases h1 with
      | ownA hq hc => exact ⟨.cons (.own hq hc) h3, by rw [h4]; rfl⟩
theorem Sta.exposeM (k : Nat) (hk : S.cs[k]? = some (p, mlC f xs)) (h : Sta B S T σ tv H) : ∃ qs : List Addr, qs.length = xs.length ∧ Sta B ⟨S.sl, S.cs.set k (p, mlA f qs xs)⟩ T σ tv H := by
  obtain ⟨G, as, bs, z⟩ := h
  obtain ⟨l, o, m, r, rfl, hp, hc, reb⟩ := z.cel.at k hk (by nofun)
  cases hc with
  | lst hs =>
    obtain ⟨qs, hl, h3⟩ := ss_expose hs
    refine ⟨qs, hl, ?_⟩
    rw [mlA_ok hl]
    exact ⟨G, as, _, z.tmp, (reb (Ex.refl G) fun _ _ => rfl).1 hp (.lst h3), z.slo, z.nod, z.fre, z.gro, z.new, z.sub, z.frm⟩
theorem le_hideM (k : Nat) (hk : S.cs[k]? = some (p, mlA f qs xs)) : Le B S ⟨S.sl, S.cs.set k (p, mlC f xs)⟩ := fun T tv σ H h => by
  by_cases hl : qs.length = xs.length
  · rw [mlA_ok hl] at hk
    obtain ⟨G, as, bs, z⟩ := h
    obtain ⟨l, o, m, r, rfl, hp, hc, reb⟩ := z.cel.at k hk (by nofun)
    cases hc with
    | lst hs =>
      exact ⟨G, as, _, z.tmp, (reb (Ex.refl G) fun _ _ => rfl).1 hp (.lst (ss_hide hl hs).1), z.slo, z.nod, z.fre, z.gro, z.new, z.sub, z.frm⟩
  · rw [mlA_no hl] at hk
    exact (bad_out hk h).elim
theorem js_exposeM (k : Nat) (hk : S.cs[k]? = some (p, mlC f xs)) (h : ∀ qs : List Addr, qs.length = xs.length → JS X B ⟨S.sl, S.cs.set k (p, mlA f qs xs)⟩ rest D) : JS X B S rest D := fun T tv σ H hs =>
  let ⟨qs, hl, h1⟩ := hs.exposeM k hk
  h qs hl _ _ _ _ h1
theorem ss_refsV : ∀ qs : List Addr, SsI G H (qs.map fun q => Slot.v (.ref q)) (qs.map V.ref) []
  | [] => .nil
  | _ :: qs => .cons (as := []) .v (ss_refsV qs)
theorem lv_mlA (k : Nat) (hk : S.cs[k]? = some (p, mlA f qs xs)) : Lv X.K B S (.v (.ref p)) (qs.map fun q => Slot.v (.ref q)) := fun z => by
  by_cases hl : qs.length = xs.length
  · rw [mlA_ok hl] at hk
    obtain ⟨a1, a2, _, h, z'⟩ := z.pop
    cases h with
    | v =>
      obtain ⟨l, o, m, r, _, hp, hc, _⟩ := z.cel.at k hk (by nofun)
      cases hc with
      | lst hs =>
        obtain ⟨_, rfl⟩ := ss_hide hl hs
        exact ⟨p, _, rfl, .inl (.of hp), ss_refsV qs⟩
  · rw [mlA_no hl] at hk
    exact (bad_out hk ⟨_, _, _, z⟩).elim
/-- the things and their places -/
def idxs (qs : List Addr) : List (Addr × Nat) := qs.zipIdx
def refI (a : Addr × Nat) : Slot := .v (.ref a.1)
theorem idxs_ref : (idxs qs).map refI = qs.map fun q => Slot.v (.ref q) := by
  unfold idxs refI
  have : (qs.zipIdx.map fun a => Slot.v (.ref a.1)) = (qs.zipIdx.map Prod.fst).map fun q => Slot.v (.ref q) := by rw [List.map_map]; rfl
  rw [this, List.zipIdx_map_fst]
theorem idxs_at {a : Addr × Nat} (h : a ∈ idxs qs) : qs[a.2]? = some a.1 := by
  obtain ⟨x, i⟩ := a
  exact List.mk_mem_zipIdx_iff_getElem?.mp h
theorem ji_mlA (k : Nat) (ha : JE X B S e S1 (.v (.ref p))) (hk : S1.cs[k]? = some (p, mlA f qs xs)) : JI X B S tg e S1 [.v (.ref p)] ((idxs qs).map refI) (fun S => ∃ ys : List α, S.cs[k]? = some (p, mlA f qs ys)) := by
  rw [idxs_ref]
  exact ji_listV ha (lv_mlA k hk) fun S ⟨ys, hk⟩ => lv_mlA k hk
theorem mlAH_nth {x : α} (hl : qs.length = xs.length) (hq : qs[n]? = some q) (hx : xs[n]? = some x) : (mlAs f qs xs)[n]? = some (.ownA q (f x)) := by
  unfold mlAs
  rw [List.getElem?_zipWith, hq, hx]
theorem le_openA (k n : Nat) {x : α} (hq : qs[n]? = some q) (hx : xs[n]? = some x) (hk : S.cs[k]? = some (p, mlA f qs xs)) : Le B S ⟨S.sl, S.cs.set k (p, mlAH f qs xs n q) ++ [(q, f x)]⟩ := fun T tv σ H h => by
  by_cases hl : qs.length = xs.length
  · rw [mlA_ok hl] at hk
    have := h.openAt k n hk (show (mlAs f qs xs)[n]? = _ from mlAH_nth hl hq hx)
    have e : (Cel.lst (mlAs f qs xs)).sub n (.v (.ref q)) = mlAH f qs xs n q := (if_pos hl).symm
    rw [e] at this
    exact this
  · rw [mlA_no hl] at hk
    exact (bad_out hk h).elim
theorem set_mlAs {x : α} (hq : qs[n]? = some q) : ((mlAs f qs xs).set n (.v (.ref q))).set n (.ownA q (f x)) = mlAs f qs (xs.set n x) := by
  rw [List.set_set]
  unfold mlAs
  apply List.ext_getElem?
  intro m
  rw [List.getElem?_set, List.getElem?_zipWith, List.getElem?_zipWith, List.getElem?_set]
  by_cases c : n = m
  · subst c
    rw [if_pos rfl, if_pos rfl, hq, List.length_zipWith]
    have h1 := (List.getElem?_eq_some_iff.mp hq).1
    by_cases h2 : n < xs.length
    · rw [if_pos (by omega), if_pos h2]
    · rw [if_neg (by omega), if_neg h2]
  · rw [if_neg c, if_neg c]
theorem le_closeA (k k2 n mm : Nat) {x : α} (hq : qs[n]? = some q) (hk : S.cs[k]? = some (p, mlAH f qs xs n q)) (hk2 : S.cs[k2]? = some (q, f x)) (hne : k ≠ k2) (ng : ∀ x, f x ≠ .gone) : Le B S ⟨S.sl, ((S.cs.set k (p, mlA f qs (xs.set n x))).set k2 (q, .gone)).take mm⟩ := fun T tv σ H h => by
  by_cases hl : qs.length = xs.length
  · have e : mlAH f qs xs n q = .lst ((mlAs f qs xs).set n (.v (.ref q))) := if_pos hl
    rw [e] at hk
    have hlt : n < (mlAs f qs xs).length := by
      unfold mlAs
      rw [List.length_zipWith]
      have := (List.getElem?_eq_some_iff.mp hq).1
      omega
    have h1 := h.foldAtA k k2 n hk (show ((mlAs f qs xs).set n (Slot.v (.ref q)))[n]? = _ from List.getElem?_set_self hlt) hk2 hne (by nofun) (ng x)
    have e2 : (Cel.lst ((mlAs f qs xs).set n (Slot.v (.ref q)))).sub n (.ownA q (f x)) = mlA f qs (xs.set n x) := by
      rw [mlA_ok (by rw [List.length_set]; exact hl)]
      exact congrArg Cel.lst (set_mlAs hq)
    rw [e2] at h1
    exact h1.take mm
  · have e : mlAH f qs xs n q = badC := if_neg hl
    rw [e] at hk
    exact (bad_out hk h).elim
end
end J
namespace J
open PySem PySem.Spec PyProof.Rows L2
open PySem.W (Datum)
section
variable {α : Type} {f : α → Cel} {xs ys : List α} {qs : List Addr} {B : Base} {S : Stt} {p q : Addr} {n : Nat}
theorem gx_natI {x : α} (h : gx xs ((n : Nat) : Int) = some x) : xs[n]? = some x := by
  unfold gx at h
  rw [if_pos (by omega), Int.toNat_natCast] at h
  exact h
theorem le_openI (k n : Nat) {x : α} (hq : qs[n]? = some q) (hx : gx xs ((n : Nat) : Int) = some x) (hk : S.cs[k]? = some (p, mlA f qs xs)) : Le B S ⟨S.sl, S.cs.set k (p, mlAH f qs xs n q) ++ [(q, f x)]⟩ := le_openA k n hq (gx_natI hx) hk
theorem le_closeI (k k2 n mm : Nat) {x : α} (hq : qs[n]? = some q) (hk : S.cs[k]? = some (p, mlAH f qs xs n q)) (hk2 : S.cs[k2]? = some (q, f x)) (hne : k ≠ k2) (ng : ∀ x, f x ≠ .gone) : Le B S ⟨S.sl, ((S.cs.set k (p, mlA f qs (xs.set ((n : Nat) : Int).toNat x))).set k2 (q, .gone)).take mm⟩ := by
  rw [Int.toNat_natCast]
  exact le_closeA k k2 n mm hq hk hk2 hne ng
end
end J
namespace J
end J
namespace J
open PySem PySem.Spec PyProof.Rows L2
open PySem.W (Datum)
/-! ### tuples that hold own things -/
section
variable {X : Cx} {B : Base} {S S1 S2 : Stt} {x : Slot} {e : Expr} {es : List Expr} {pos : Pos} {D : FE} {rest : List Stmt} {p : Addr} {c : Cel}
theorem ss_plain {G H : Hp} : ∀ {ss : List Slot} {vs : List V} {as : List Addr}, SsI G H ss vs as → (∀ s ∈ ss, s.plain = true) → as = [] ∧ ∀ H', SsI G H' ss vs []
  | _, _, _, .nil, _ => ⟨rfl, fun _ => .nil⟩
  | _, _, _, .cons h1 h2, hp => by
    obtain ⟨e2, k2⟩ := ss_plain h2 fun s hs => hp s (List.mem_cons_of_mem _ hs)
    have e1 := h1.nil (hp _ List.mem_cons_self)
    subst e1
    subst e2
    exact ⟨rfl, fun H' => .cons (as := []) (h1.ok (hp _ List.mem_cons_self)).sl (k2 H')⟩
/-- (e, ..), where some are own -/
theorem je_otup {xs : List Slot} {kk : Nat} (ha : JA X B S es S1 xs) (hl : xs.length ≤ 1000 := by exact Nat.le_of_ble_eq_true rfl) : JE X B S (.Tuple es kk pos) S1 (.otup xs) := fun T tv σ H Q hs q =>
  pe1 (pe_tup pa0) (ha _ _ _ _ _ hs fun vs H1 he h1 => ⟨Nat.le_trans (Nat.le_of_eq he) (Nat.le_trans hl (by decide)), fun p hp => by
    obtain ⟨G, as, bs, z⟩ := h1
    obtain ⟨a1, a2, rfl, g1, z'⟩ := z.split he.symm
    have hG : G p = none := ex_none z.sub hp
    have eg : Ex G (upd G p (.tup vs)) := ex_upd (Ex.refl G) hG
    have n1 : ∀ a ∈ a1 ++ a2 ++ bs, a ≠ p := z.fresh hp
    refine q _ _ ⟨upd G p (.tup vs), a1 ++ a2, bs, .cons (.otup upd_same (g1.mono eg fun a ha => upd_ne (n1 a (by simp [ha])))) (z'.tmp.mono eg fun a ha => upd_ne (n1 a (by simp [ha]))), z.cel.mono eg fun a ha => upd_ne (n1 a (by simp [ha])), z.slo.mono eg, z.nod, fun a ha => ?_, z.gro.trans eg, fun a u ha => ?_, fun a u ha => ?_, ex_upd z.frm (ex_none z.frm hp)⟩
    · rw [upd_ne (n1 a ha)]
      exact z.fre a ha
    · by_cases e : a = p
      · subst e
        exact .inr (.inl (ex_none z.frm hp))
      · rw [upd_ne e] at ha
        exact z.new a u ha
    · by_cases e : a = p
      · subst e
        rw [upd_same] at ha ⊢
        exact ha
      · rw [upd_ne e] at ha ⊢
        exact z.sub a u ha⟩)
/-- a told tuple, of which the first one stands at l -/
def Td (l : Addr) (ts : List Slot) : Hp → V → Prop := fun G u => ∃ t vs, u = .ref t ∧ G t = some (.tup (.ref l :: vs)) ∧ ∀ H, SsI G H ts vs []
theorem td_mono {l : Addr} {ts : List Slot} : Mono (Td l ts) := fun G G' u e ⟨t, vs, h1, h2, h3⟩ => ⟨t, vs, h1, e _ _ h2, fun H => (h3 H).mono e fun _ ha => nomatch ha⟩
/-- a list's tuple opened: its own thing stands beside it -/
theorem js_openT (k : Nat) {A Bs ts : List Slot} (hk : S.cs[k]? = some (p, .lst (A ++ .otup (.own c :: ts) :: Bs))) (hp : ∀ s ∈ ts, s.plain = true) (h : ∀ l, JS X B ⟨S.sl, S.cs.set k (p, .lst (A ++ .say (Td l ts) :: Bs)) ++ [(l, c)]⟩ rest D) : JS X B S rest D := fun T tv σ H hs => by
  obtain ⟨G, as0, bs, z⟩ := hs
  obtain ⟨l0, o, m, r, rfl, hpp, hc, reb⟩ := z.cel.at k hk (by nofun)
  cases hc with
  | @lst _ vs _ hss =>
    have hlen := hss.len
    rw [List.length_append] at hlen
    have hv : A.length = (vs.take A.length).length := by rw [List.length_take]; omega
    have hss2 := hss
    rw [← List.take_append_drop A.length vs] at hss2
    obtain ⟨mA, m2, rfl, hA, h2⟩ := SsI.split hv hss2
    generalize hd : vs.drop A.length = dv at h2
    cases h2 with
    | @cons _ u m3 _ vb m4 g1 g2 =>
      cases g1 with
      | @otup _ ws t _ ht hts =>
        cases hts with
        | @cons _ w m5 _ ws' m6 g3 g4 =>
          cases g3 with
          | @own _ l ol al hl hcl =>
            obtain ⟨rfl, g5⟩ := ss_plain g4 hp
            have top : SlI G H (.say (Td l ts)) (.ref t) [] := .say td_mono ⟨t, ws', rfl, ht, g5⟩
            have hnew : CeI G H (.lst (A ++ .say (Td l ts) :: Bs)) (.lst vs) (mA ++ ([] ++ m4)) := by
              have e : vs = vs.take A.length ++ (V.ref t :: vb) := by rw [← hd, List.take_append_drop]
              rw [e]
              exact .lst (hA.app (.cons top g2))
            have c2 := (reb (Ex.refl G) fun _ _ => rfl).1 hpp hnew
            have c3 := c2.app (CsI.cons hl hcl .nil)
            have pm : (l0 ++ p :: (mA ++ ([] ++ m4)) ++ r ++ (l :: (al ++ []))).Perm (l0 ++ (p :: (mA ++ (l :: al ++ [] ++ m4))) ++ r) := by
              rw [List.append_nil, List.append_nil, List.nil_append, List.append_assoc l0, List.append_assoc l0, List.append_assoc l0]
              refine List.Perm.append_left l0 ?_
              show (p :: (mA ++ m4 ++ r ++ (l :: al))).Perm (p :: (mA ++ (l :: al ++ m4) ++ r))
              refine List.Perm.cons p ?_
              rw [List.append_assoc mA, List.append_assoc mA, List.append_assoc mA]
              refine List.Perm.append_left mA ?_
              rw [List.append_assoc m4, List.append_assoc]
              exact (List.append_assoc m4 r (l :: al) ▸ List.perm_append_comm : (m4 ++ (r ++ (l :: al))).Perm ((l :: al) ++ (m4 ++ r)))
            have pm2 := List.Perm.append_left as0 pm
            exact h l T tv σ H ⟨G, as0, _, z.tmp, c3, z.slo, pm2.nodup_iff.mpr z.nod, fun a ha => z.fre a (pm2.mem_iff.mp ha), z.gro, z.new, z.sub, z.frm⟩
/-- l, .. = t -/
theorem jg_td {kk : Nat} {l : Addr} {ts : List Slot} {ws : List Nat} (h : JGs X B S es (.v (.ref l) :: ts) S1 ws) (hc : X.calm = true := by rfl) (hn : (assignEach es X.env).length = ts.length + 1 := by rfl) (hst : (assignEach es X.env).findIdx? (·.1) = none := by rfl) : JG X B S (.Tuple es kk pos) (.say (Td l ts)) S1 ws := fun T tv σ v H Q hs q =>
  pg1 (pg_tup hc pgs0 rfl hst) (by
    obtain ⟨G, as, bs, z⟩ := hs
    obtain ⟨a1, a2, rfl, g, z'⟩ := z.pop
    cases g with
    | say m g =>
      obtain ⟨t, vs, rfl, ht, hts⟩ := g
      have hss : SsI G H (.v (.ref l) :: ts) (.ref l :: vs) [] := .cons (as := []) .v (hts H)
      refine ⟨t, _, rfl, .of (z.sub _ _ ht), by rw [hn, ← hss.len]; rfl, ?_⟩
      exact h _ _ _ _ _ _ hss.len.symm ⟨G, [] ++ a2, bs, hss.app z'.tmp, z'.cel, z'.slo, z'.nod, z'.fre, z'.gro, z'.new, z'.sub, z'.frm⟩ q)
/-! two such, opened; gone through by turns -/
def two {α : Type} (xs : List α) : Option (α × α) := match xs with
  | [a, b] => some (a, b)
  | _ => none
theorem two_eq {α : Type} {xs : List α} {r : α × α} (h : two xs = some r) : xs = [r.1, r.2] := by
  unfold two at h
  split at h
  · cases h
    rfl
  · cases h
theorem js_open2 {α : Type} {xs : List α} {r : α × α} {cf : α → Cel} {tf : α → List Slot} (k : Nat) (h2 : two xs = some r) (hk : S.cs[k]? = some (p, .lst (xs.map fun y => .otup (.own (cf y) :: tf y)))) (hp : ∀ y, ∀ s ∈ tf y, s.plain = true)
    (h : ∀ l0 l1, JS X B ⟨S.sl, (S.cs.set k (p, .lst [.say (Td l0 (tf r.1)), .say (Td l1 (tf r.2))]) ++ [(l0, cf r.1)]) ++ [(l1, cf r.2)]⟩ rest D) : JS X B S rest D := by
  rw [two_eq h2] at hk
  refine js_openT k (A := []) hk (hp _) fun l0 => ?_
  have hlt : k < S.cs.length := by
    have := (List.getElem?_eq_some_iff.mp hk).1
    exact this
  refine js_openT (S := ⟨S.sl, S.cs.set k (p, .lst [.say (Td l0 (tf r.1)), .otup (.own (cf r.2) :: tf r.2)]) ++ [(l0, cf r.1)]⟩) k (p := p) (A := [.say (Td l0 (tf r.1))]) (Bs := []) (ts := tf r.2) (c := cf r.2) ?_ (hp _) fun l1 => ?_
  · show (S.cs.set k _ ++ _)[k]? = _
    rw [List.getElem?_append_left (by rw [List.length_set]; exact hlt), List.getElem?_set_self hlt]
    rfl
  · have e : (S.cs.set k (p, Cel.lst [.say (Td l0 (tf r.1)), .otup (.own (cf r.2) :: tf r.2)]) ++ [(l0, cf r.1)]).set k (p, Cel.lst [.say (Td l0 (tf r.1)), .say (Td l1 (tf r.2))]) = S.cs.set k (p, .lst [.say (Td l0 (tf r.1)), .say (Td l1 (tf r.2))]) ++ [(l0, cf r.1)] := by
      rw [List.set_append_left _ _ (by rw [List.length_set]; exact hlt), List.set_set]
    show JS X B ⟨S.sl, (S.cs.set k (p, Cel.lst [.say (Td l0 (tf r.1)), .otup (.own (cf r.2) :: tf r.2)]) ++ [(l0, cf r.1)]).set k (p, Cel.lst [.say (Td l0 (tf r.1)), .say (Td l1 (tf r.2))]) ++ [(l1, cf r.2)]⟩ rest D
    rw [e]
    exact h l0 l1
theorem say2 {φ ψ : Hp → V → Prop} : ∀ s ∈ [Slot.say φ, Slot.say ψ], s.plain = true := fun s hs => by
  simp only [List.mem_cons, List.not_mem_nil, or_false] at hs
  rcases hs with rfl | rfl <;> rfl
end
end J
namespace J
open PySem PySem.Spec PyProof.Rows L2
open PySem.W (Datum)
/-! ### an own list of own lists, lent for an expression that tells a number, a truth value or a text -/
abbrev intsC (xs : List Int) : Cel := .lst (xs.map Slot.val)
theorem ints_flat {G G2 H : Hp} (xs : List Int) : ∀ (vs : List V) (as : List Addr), SsI G H (xs.map Slot.val) vs as → as = [] ∧ DqAll G2 vs (xs.map Datum.toD) := by
  induction xs with
  | nil =>
    intro vs as h
    cases h
    exact ⟨rfl, .nil⟩
  | cons x xs ih =>
    intro vs as h
    cases h with
    | cons h1 h2 =>
      obtain ⟨rfl, k⟩ := ih _ _ h2
      cases h1 with
      | val g =>
        cases (show Dq G _ (PyData.int x) from g) with
        | int => exact ⟨rfl, .cons (.int x) k⟩
theorem tree_told {G H G2 : Hp} (xss : List (List Int)) : ∀ (vs : List V) (m : List Addr), SsI G H (xss.map fun x => Slot.own (intsC x)) vs m → (∀ a ∈ m, G2 a = H a) → DqAll G2 vs (xss.map Datum.toD) := by
  induction xss with
  | nil =>
    intro vs m h _
    cases h
    exact .nil
  | cons x xss ih =>
    intro vs m h hm
    cases h with
    | cons h1 h2 =>
      have k := ih _ _ h2 fun a ha => hm a (List.mem_append_right _ ha)
      cases h1 with
      | @own _ p o as hp hc =>
        cases hc with
        | lst hs =>
          have e := hm p (List.mem_append_left _ List.mem_cons_self)
          exact .cons (.lst (e.trans hp) (ints_flat x _ _ hs).2) k
/-- data that holds no reference -/
def Flat (d : PyData) : Prop := ∀ {G G2 : Hp} {v : V}, Dq G v d → Dq G2 v d
theorem flat_str (x : Str) : Flat (.str x) := fun h => by cases h; exact .str x
theorem SgI.put {G : Hp} {sl : List Slot} {σ : L2.St} (h : SgI G sl σ) {i : Nat} {s : Slot} {o : Option V} (ho : σ[i]? = some o) (hs : SlOk G s o) : SgI G (sl.set i s) σ := by
  refine ⟨by rw [List.length_set]; exact h.1, fun j s' hj => ?_⟩
  by_cases e : i = j
  · subst e
    have hl := (List.getElem?_eq_some_iff.mp hj).1
    rw [List.length_set] at hl
    rw [List.getElem?_set_self hl] at hj
    cases hj
    exact ⟨o, ho, hs⟩
  · rw [List.getElem?_set_ne e] at hj
    exact h.2 j s' hj
section
variable {X : Cx} {B : Base} {S : Stt} {e : Expr} {p : Addr} {xss : List (List Int)}
/-- the told state, and the way back -/
theorem lend_core {T : List Slot} {σ : L2.St} {tv : List V} {H : Hp} (k i : Nat) (hk : S.cs[k]? = some (p, mlC intsC xss)) (hi : S.sl[i]? = some (.v (.ref p))) (hs : Sta B S T σ tv H) :
    ∃ B' : Base, Sta B' ⟨S.sl.set i (.val xss), []⟩ [] σ [] H ∧ ∀ {H' : Hp} {T' : List Slot} {tv' : List V}, Sta B' ⟨S.sl.set i (.val xss), []⟩ T' σ tv' H' → Sta B S T σ tv H' := by
  obtain ⟨G, as, bs, z⟩ := hs
  obtain ⟨l, o, m, r, rfl, hp, hc, _⟩ := z.cel.at k hk (by nofun)
  unfold mlC at hc
  cases hc with
  | @lst _ vs _ hss =>
    have inb : ∀ a ∈ p :: m, a ∈ as ++ (l ++ p :: m ++ r) := fun a ha => List.mem_append_right _ (List.mem_append_left _ (List.mem_append_right _ ha))
    let G' : Hp := fun a => if a ∈ p :: m then H a else G a
    let F' : Hp := fun a => if a ∈ as ++ (l ++ p :: m ++ r) then H a else B.F a
    have eG : Ex G G' := fun a u ha => by
      show (if a ∈ p :: m then H a else G a) = some u
      rw [if_neg fun hm => by rw [(z.fre a (inb a hm)).1] at ha; cases ha]
      exact ha
    have at_ : ∀ a ∈ p :: m, G' a = H a := fun a ha => if_pos ha
    have told : Dq G' (.ref p) (Datum.toD xss) := .lst ((at_ p List.mem_cons_self).trans hp) (tree_told xss _ _ hss fun a ha => at_ a (List.mem_cons_of_mem _ ha))
    obtain ⟨o', h1, h2⟩ := z.slo.2 i _ hi
    have h2 : o' = some (.ref p) := h2
    subst h2
    have subG : Ex G' H := fun a u ha => by
      have ha : (if a ∈ p :: m then H a else G a) = some u := ha
      split at ha
      · exact ha
      · exact z.sub a u ha
    have frmF : Ex F' H := fun a u ha => by
      have ha : (if a ∈ as ++ (l ++ p :: m ++ r) then H a else B.F a) = some u := ha
      split at ha
      · exact ha
      · exact z.frm a u ha
    refine ⟨⟨G', F'⟩, ⟨G', [], [], .nil, .nil, SgI.put (z.slo.mono eG) h1 ⟨_, rfl, told⟩, List.nodup_nil, (fun a ha => nomatch ha), Ex.refl _, (fun a u ha => .inl ha), subG, frmF⟩, fun {H' T' tv'} g => ?_⟩
    obtain ⟨G2, as2, bs2, y⟩ := g
    have same : ∀ a ∈ as ++ (l ++ p :: m ++ r), H' a = H a := fun a ha => by
      have ex : ∃ u, H a = some u := by
        rcases List.mem_append.mp ha with h | h
        · exact z.tmp.def a h
        · exact z.cel.def a h
      obtain ⟨u, hu⟩ := ex
      have : F' a = some u := by
        show (if a ∈ as ++ (l ++ p :: m ++ r) then H a else B.F a) = some u
        rw [if_pos ha]
        exact hu
      rw [hu]
      exact y.frm a u this
    refine ⟨G, as, l ++ p :: m ++ r, z.tmp.mono (Ex.refl G) fun a ha => same a (List.mem_append_left _ ha), z.cel.mono (Ex.refl G) fun a ha => same a (List.mem_append_right _ ha), z.slo, z.nod, z.fre, z.gro, z.new, fun a u ha => y.sub a u (y.gro a u (eG a u ha)), fun a u ha => ?_⟩
    refine y.frm a u ?_
    show (if a ∈ as ++ (l ++ p :: m ++ r) then H a else B.F a) = some u
    rw [if_neg fun hm => by rw [(z.fre a hm).2] at ha; cases ha]
    exact ha
theorem je_lend {β : Type} [DecidableEq β] [Datum β] {t : β} (k i : Nat) (hk : S.cs[k]? = some (p, mlC intsC xss)) (hi : S.sl[i]? = some (.v (.ref p))) (hf : Flat (Datum.toD t)) (h : ∀ B', JE X B' ⟨S.sl.set i (.val xss), []⟩ e ⟨S.sl.set i (.val xss), []⟩ (.val t)) : JE X B S e S (.val t) := fun T tv σ H Q hs q => by
  obtain ⟨B', h1, back⟩ := lend_core k i hk hi hs
  refine h B' [] [] σ H Q h1 fun v H' g => q v H' ?_
  have hb := back g
  obtain ⟨G2, as2, bs2, y⟩ := g
  obtain ⟨a1, a2, _, g1, _⟩ := y.pop
  cases g1 with
  | val g1 =>
    obtain ⟨G, as, bs, z⟩ := hb
    exact ⟨G, [] ++ as, bs, .cons (.val (hf g1)) z.tmp, z.cel, z.slo, z.nod, z.fre, z.gro, z.new, z.sub, z.frm⟩
end
end J
namespace J
open PySem PySem.Spec PyProof.Rows L2
open PySem.W (Datum)
/-! ### lent for an expression that hands back a new list of tuples -/
/-- data whose lists are none -/
def Low (d : PyData) : Prop := ∀ {G G2 : Hp} {v : V}, (∀ a xs, G a = some (.tup xs) → G2 a = some (.tup xs)) → Dq G v d → Dq G2 v d
theorem low_non : Low .none := fun _ h => by cases h; exact .non
theorem low_int (i : Int) : Low (.int i) := fun _ h => by cases h; exact .int i
theorem low_str (x : Str) : Low (.str x) := fun _ h => by cases h; exact .str x
theorem low_all {G G2 : Hp} (e : ∀ a xs, G a = some (.tup xs) → G2 a = some (.tup xs)) : ∀ {ds : List PyData} {vs : List V}, (∀ d ∈ ds, Low d) → DqAll G vs ds → DqAll G2 vs ds
  | [], _, _, .nil => .nil
  | d :: ds, _, h, .cons h1 h2 => .cons (h d List.mem_cons_self e h1) (low_all e (fun d hd => h d (List.mem_cons_of_mem _ hd)) h2)
theorem low_tup {ds : List PyData} (h : ∀ d ∈ ds, Low d) : Low (.tuple ds) := fun e g => by
  cases g with
  | tup hp ha => exact .tup (e _ _ hp) (low_all e h ha)
theorem low_vals {α : Type} [DecidableEq α] [Datum α] {G2 G3 H H' : Hp} (low : ∀ t : α, Low (Datum.toD t)) (tups : ∀ a xs, G2 a = some (.tup xs) → G3 a = some (.tup xs)) (ts : List α) : ∀ (vs : List V) (as : List Addr), SsI G2 H (ts.map Slot.val) vs as → SsI G3 H' (ts.map Slot.val) vs [] := by
  induction ts with
  | nil =>
    intro vs as h
    cases h
    exact .nil
  | cons t ts ih =>
    intro vs as h
    cases h with
    | cons h1 h2 =>
      cases h1 with
      | val h1 => exact .cons (as := []) (.val (low t tups h1)) (ih _ _ h2)
section
variable {X : Cx} {B : Base} {S : Stt} {e : Expr} {p : Addr}
theorem lend_gen {T : List Slot} {σ : L2.St} {tv : List V} {H G : Hp} {as bs ms : List Addr} {sl : List Slot} (z : St0 B S T σ tv H G as bs) (hm : ∀ a ∈ ms, a ∈ as ++ bs) (hsl : SgI (fun a => if a ∈ ms then H a else G a) sl σ) :
    ∃ B' : Base, Sta B' ⟨sl, []⟩ [] σ [] H ∧ (∀ {H' : Hp} {T' : List Slot} {tv' : List V}, Sta B' ⟨sl, []⟩ T' σ tv' H' → Sta B S T σ tv H') ∧
      ∀ {H' : Hp} {α : Type} [DecidableEq α] [Datum α] {ts : List α} {v : V}, (∀ t : α, Low (Datum.toD t)) → Sta B' ⟨sl, []⟩ [.own (.lst (ts.map Slot.val))] σ [v] H' → Sta B S (.own (.lst (ts.map Slot.val)) :: T) σ (v :: tv) H' := by
  let G' : Hp := fun a => if a ∈ ms then H a else G a
  let F' : Hp := fun a => if a ∈ as ++ bs then H a else B.F a
  have eG : Ex G G' := fun a u ha => by
    show (if a ∈ ms then H a else G a) = some u
    rw [if_neg fun h => by rw [(z.fre a (hm a h)).1] at ha; cases ha]
    exact ha
  have subG : Ex G' H := fun a u ha => by
    have ha : (if a ∈ ms then H a else G a) = some u := ha
    split at ha
    · exact ha
    · exact z.sub a u ha
  have frmF : Ex F' H := fun a u ha => by
    have ha : (if a ∈ as ++ bs then H a else B.F a) = some u := ha
    split at ha
    · exact ha
    · exact z.frm a u ha
  have own : ∀ a ∈ as ++ bs, ∃ u, H a = some u ∧ NT u := fun a ha => by
    rcases List.mem_append.mp ha with h | h
    · exact z.tmp.nt a h
    · exact z.cel.nt a h
  have inF : ∀ a ∈ as ++ bs, ∀ u, H a = some u → F' a = some u := fun a ha u hu => by
    show (if a ∈ as ++ bs then H a else B.F a) = some u
    rw [if_pos ha]
    exact hu
  have outF : ∀ a u, B.F a = some u → F' a = some u := fun a u ha => by
    show (if a ∈ as ++ bs then H a else B.F a) = some u
    rw [if_neg fun h => by rw [(z.fre a h).2] at ha; cases ha]
    exact ha
  refine ⟨⟨G', F'⟩, ⟨G', [], [], .nil, .nil, hsl, List.nodup_nil, (fun a ha => nomatch ha), Ex.refl _, (fun a u ha => .inl ha), subG, frmF⟩, fun {H' T' tv'} g => ?_, fun {H' α i1 i2 ts v} low g => ?_⟩
  · obtain ⟨G2, as2, bs2, y⟩ := g
    have same : ∀ a ∈ as ++ bs, H' a = H a := fun a ha => by
      obtain ⟨u, hu, _⟩ := own a ha
      rw [hu]
      exact y.frm a u (inF a ha u hu)
    exact ⟨G, as, bs, z.tmp.mono (Ex.refl G) fun a ha => same a (List.mem_append_left _ ha), z.cel.mono (Ex.refl G) fun a ha => same a (List.mem_append_right _ ha), z.slo, z.nod, z.fre, z.gro, z.new, fun a u ha => y.sub a u (y.gro a u (eG a u ha)), fun a u ha => y.frm a u (outF a u ha)⟩
  · obtain ⟨G2, as2, bs2, y⟩ := g
    have same : ∀ a ∈ as ++ bs, H' a = H a := fun a ha => by
      obtain ⟨u, hu, _⟩ := own a ha
      rw [hu]
      exact y.frm a u (inF a ha u hu)
    obtain ⟨a1, a2, rfl, g1, _⟩ := y.pop
    cases g1 with
    | @own _ q o as' hq hc =>
      cases hc with
      | @lst _ vs _ hss =>
        obtain ⟨rfl, _⟩ := ss_plain hss (plain_map ts)
        have fq := y.fre q (List.mem_append_left _ (List.mem_append_left _ List.mem_cons_self))
        have nq : q ∉ as ++ bs := fun h => by
          obtain ⟨u, hu, _⟩ := own q h
          have e1 : F' q = none := fq.2
          rw [inF q h u hu] at e1
          cases e1
        let G3 : Hp := fun a => match G a with
          | some o => some o
          | none => match G2 a with
            | some (.tup xs) => some (.tup xs)
            | _ => none
        have e3 : Ex G G3 := fun a u ha => by
          show (match G a with
            | some o => some o
            | none => _) = some u
          rw [ha]
        have cases3 : ∀ a u, G3 a = some u → G a = some u ∨ (G a = none ∧ G2 a = some u ∧ ∃ xs, u = .tup xs) := fun a u ha => by
          have ha : (match G a with
            | some o => some o
            | none => match G2 a with
              | some (.tup xs) => some (.tup xs)
              | _ => none) = some u := ha
          cases e : G a with
          | some o => rw [e] at ha; exact .inl ha
          | none =>
            rw [e] at ha
            cases e2 : G2 a with
            | none => rw [e2] at ha; cases ha
            | some o2 =>
              rw [e2] at ha
              cases o2 with
              | tup xs => exact .inr ⟨rfl, ha, xs, (Option.some.inj ha).symm⟩
              | _ => cases ha
        have tups : ∀ a xs, G2 a = some (.tup xs) → G3 a = some (.tup xs) := fun a xs ha => by
          cases e : G a with
          | some o =>
            have := y.gro a o (eG a o e)
            rw [ha] at this
            cases this
            exact e3 a _ e
          | none =>
            show (match G a with
              | some o => some o
              | none => match G2 a with
                | some (.tup xs) => some (.tup xs)
                | _ => none) = some (.tup xs)
            rw [e, ha]
        have vals : SsI G3 H' (ts.map Slot.val) vs [] := low_vals low tups ts vs _ hss
        have n3 : ∀ a ∈ as ++ bs, G3 a = none := fun a ha => by
          cases e : G3 a with
          | none => rfl
          | some u =>
            rcases cases3 a u e with h | ⟨_, h2, xs, rfl⟩
            · rw [(z.fre a ha).1] at h
              cases h
            · obtain ⟨u', hu, nt⟩ := own a ha
              have := y.sub a _ h2
              rw [same a ha, hu] at this
              exact absurd (Option.some.inj this) (nt xs)
        have q3 : G3 q = none := by
          cases e : G3 q with
          | none => rfl
          | some u =>
            rcases cases3 q u e with h | ⟨_, h2, _⟩
            · have := y.gro q u (eG q u h)
              rw [fq.1] at this
              cases this
            · rw [fq.1] at h2
              cases h2
        have qF : B.F q = none := by
          cases e : B.F q with
          | none => rfl
          | some u =>
            have e1 : F' q = none := fq.2
            rw [outF q u e] at e1
            cases e1
        refine ⟨G3, (q :: []) ++ as, bs, .cons (.own hq (.lst vals)) (z.tmp.mono e3 fun a ha => same a (List.mem_append_left _ ha)), z.cel.mono e3 fun a ha => same a (List.mem_append_right _ ha), z.slo.mono e3, List.nodup_cons.mpr ⟨nq, z.nod⟩, fun a ha => ?_, z.gro.trans e3, fun a u ha => ?_, fun a u ha => ?_, fun a u ha => y.frm a u (outF a u ha)⟩
        · rcases List.mem_cons.mp ha with rfl | ha
          · exact ⟨q3, qF⟩
          · exact ⟨n3 a ha, (z.fre a ha).2⟩
        · rcases cases3 a u ha with h | ⟨_, _, h⟩
          · exact z.new a u h
          · exact .inr (.inr h)
        · rcases cases3 a u ha with h | ⟨_, h, _⟩
          · exact y.sub a u (y.gro a u (eG a u h))
          · exact y.sub a u h
theorem cell_told {T : List Slot} {σ : L2.St} {tv : List V} {H G : Hp} {as bs : List Addr} {xss : List (List Int)} (z : St0 B S T σ tv H G as bs) (k : Nat) (hk : S.cs[k]? = some (p, mlC intsC xss)) : ∃ m, (∀ a ∈ p :: m, a ∈ as ++ bs) ∧ ∀ G2 : Hp, (∀ a ∈ p :: m, G2 a = H a) → Dq G2 (.ref p) (Datum.toD xss) := by
  obtain ⟨l, o, m, r, rfl, hp, hc, _⟩ := z.cel.at k hk (by nofun)
  unfold mlC at hc
  cases hc with
  | @lst _ vs _ hss =>
    exact ⟨m, fun a ha => List.mem_append_right _ (List.mem_append_left _ (List.mem_append_right _ ha)), fun G2 h2 => .lst ((h2 p List.mem_cons_self).trans hp) (tree_told xss _ _ hss fun a ha => h2 a (List.mem_cons_of_mem _ ha))⟩
theorem slots_told {T : List Slot} {σ : L2.St} {tv : List V} {H G : Hp} {as bs ms : List Addr} (z : St0 B S T σ tv H G as bs) (hm : ∀ a ∈ ms, a ∈ as ++ bs) (i : Nat) {s : Slot} (hi : S.sl[i]? = some (.v (.ref p))) (hs : SlOk (fun a => if a ∈ ms then H a else G a) s (some (.ref p))) : SgI (fun a => if a ∈ ms then H a else G a) (S.sl.set i s) σ := by
  obtain ⟨o', h1, h2⟩ := z.slo.2 i _ hi
  have h2 : o' = some (.ref p) := h2
  subst h2
  refine SgI.put (z.slo.mono fun a u ha => ?_) h1 hs
  show (if a ∈ ms then H a else G a) = some u
  rw [if_neg fun h => by rw [(z.fre a (hm a h)).1] at ha; cases ha]
  exact ha
/-- the cell at k lent: a new list of tuples -/
theorem je_lendL {α : Type} [DecidableEq α] [Datum α] {ts : List α} {xss : List (List Int)} (k i : Nat) (hk : S.cs[k]? = some (p, mlC intsC xss)) (hi : S.sl[i]? = some (.v (.ref p))) (low : ∀ t : α, Low (Datum.toD t)) (h : ∀ B', JE X B' ⟨S.sl.set i (.val xss), []⟩ e ⟨S.sl.set i (.val xss), []⟩ (.own (.lst (ts.map Slot.val)))) : JE X B S e S (.own (.lst (ts.map Slot.val))) := fun T tv σ H Q hs q => by
  obtain ⟨G, as, bs, z⟩ := hs
  obtain ⟨m, hm, ht⟩ := cell_told z k hk
  obtain ⟨B', h1, _, back⟩ := lend_gen z hm (slots_told z hm i (s := .val xss) hi ⟨_, rfl, ht _ fun a ha => if_pos ha⟩)
  exact h B' [] [] σ H Q h1 fun v H' g => q v H' (back low g)
/-- two sides lent at once, for a text -/
theorem je_lendS {β : Type} [DecidableEq β] [Datum β] {t : β} {x0 x1 : List (List Int)} {a0 b0 a1 b1 : Int} {l0 l1 : Addr} (k k0 k1 i : Nat) (hk : S.cs[k]? = some (p, .lst [.say (Td l0 [.val a0, .val b0]), .say (Td l1 [.val a1, .val b1])])) (h0 : S.cs[k0]? = some (l0, mlC intsC x0)) (h1 : S.cs[k1]? = some (l1, mlC intsC x1)) (hi : S.sl[i]? = some (.v (.ref p))) (hf : Flat (Datum.toD t))
    (h : ∀ B', JE X B' ⟨S.sl.set i (.val [PySem.W.T3.mk x0 a0 b0, PySem.W.T3.mk x1 a1 b1]), []⟩ e ⟨S.sl.set i (.val [PySem.W.T3.mk x0 a0 b0, PySem.W.T3.mk x1 a1 b1]), []⟩ (.val t)) : JE X B S e S (.val t) := fun T tv σ H Q hs q => by
  obtain ⟨G, as, bs, z⟩ := hs
  obtain ⟨m0, hm0, ht0⟩ := cell_told z k0 h0
  obtain ⟨m1, hm1, ht1⟩ := cell_told z k1 h1
  obtain ⟨l, o, m, r, rfl, hp, hc, _⟩ := z.cel.at k hk (by nofun)
  cases hc with
  | @lst _ vs _ hss =>
    let ms : List Addr := p :: ((l0 :: m0) ++ (l1 :: m1))
    have hm : ∀ a ∈ ms, a ∈ as ++ (l ++ p :: m ++ r) := fun a ha => by
      rcases List.mem_cons.mp ha with rfl | ha
      · exact List.mem_append_right _ (List.mem_append_left _ (List.mem_append_right _ List.mem_cons_self))
      · rcases List.mem_append.mp ha with ha | ha
        · exact hm0 a ha
        · exact hm1 a ha
    let G' : Hp := fun a => if a ∈ ms then H a else G a
    have eG : Ex G G' := fun a u ha => by
      show (if a ∈ ms then H a else G a) = some u
      rw [if_neg fun h => by rw [(z.fre a (hm a h)).1] at ha; cases ha]
      exact ha
    have one : ∀ {l : Addr} {a b : Int} {x : List (List Int)} {u : V}, Dq G' (.ref l) (Datum.toD x) → Td l [.val a, .val b] G u → Dq G' u (Datum.toD (PySem.W.T3.mk x a b)) := fun {l a b x u} hx hu => by
      obtain ⟨t, ws, rfl, h2, h3⟩ := hu
      have h3 := h3 H
      generalize ea : ([] : List Addr) = em at h3
      cases h3 with
      | cons g1 g2 =>
        obtain ⟨rfl, rfl⟩ := List.append_eq_nil_iff.mp ea.symm
        cases g1 with
        | val g1 =>
          cases (show Dq G _ (PyData.int a) from g1) with
          | int =>
            generalize ea2 : ([] : List Addr) = em2 at g2
            cases g2 with
            | cons g3 g4 =>
              obtain ⟨rfl, rfl⟩ := List.append_eq_nil_iff.mp ea2.symm
              cases g3 with
              | val g3 =>
                cases (show Dq G _ (PyData.int b) from g3) with
                | int =>
                  cases g4
                  exact .tup (eG _ _ h2) (.cons hx (.cons (.int a) (.cons (.int b) .nil)))
    have told : Dq G' (.ref p) (Datum.toD [PySem.W.T3.mk x0 a0 b0, PySem.W.T3.mk x1 a1 b1]) := by
      have d0 := ht0 G' fun a ha => if_pos (List.mem_cons_of_mem _ (List.mem_append_left _ ha))
      have d1 := ht1 G' fun a ha => if_pos (List.mem_cons_of_mem _ (List.mem_append_right _ ha))
      cases hss with
      | cons u0 hss =>
        cases u0 with
        | say _ u0 =>
          cases hss with
          | cons u1 hss =>
            cases u1 with
            | say _ u1 =>
              cases hss
              exact .lst ((if_pos List.mem_cons_self : G' p = H p).trans hp) (.cons (one d0 u0) (.cons (one d1 u1) .nil))
    obtain ⟨B', h1, back, _⟩ := lend_gen z hm (slots_told z hm i (s := .val [PySem.W.T3.mk x0 a0 b0, PySem.W.T3.mk x1 a1 b1]) hi ⟨_, rfl, told⟩)
    refine h B' [] [] σ H Q h1 fun v H' g => q v H' ?_
    have hb := back g
    obtain ⟨G2, as2, bs2, y⟩ := g
    obtain ⟨a1, a2, _, g1, _⟩ := y.pop
    cases g1 with
    | val g1 =>
      obtain ⟨G, as, bs, z⟩ := hb
      exact ⟨G, [] ++ as, bs, .cons (.val (hf g1)) z.tmp, z.cel, z.slo, z.nod, z.fre, z.gro, z.new, z.sub, z.frm⟩
/-- a list of own things turned about -/
theorem ss_rev {G H : Hp} : ∀ {ss : List Slot} {vs : List V} {m : List Addr}, SsI G H ss vs m → ∃ m', m'.Perm m ∧ SsI G H ss.reverse vs.reverse m'
  | _, _, _, .nil => ⟨[], List.Perm.refl _, .nil⟩
  | _, _, _, .cons (as := as) (bs := bs) h1 h2 => by
    obtain ⟨m', pm, h3⟩ := ss_rev h2
    rw [List.reverse_cons, List.reverse_cons]
    exact ⟨m' ++ as, (List.Perm.append_right as pm).trans List.perm_append_comm, h3.app (SsI.one h1)⟩
theorem je_revM {o : Expr} {pos apos : Pos} {S1 : Stt} {α : Type} {f : α → Cel} {xs : List α} (k : Nat) (ho : JE X B S o S1 (.v (.ref p))) (hk : S1.cs[k]? = some (p, mlC f xs))
    (hbase : attributeBase o "reverse" X.env (eval o X.env) = eval o X.env := by rfl) (hline : (apos.endLine == pos.line) = true := by rfl) : JE X B S (.Call (.Attribute o "reverse" apos) [] [] pos) ⟨S1.sl, S1.cs.set k (p, mlC f xs.reverse)⟩ (.v .non) :=
  je_bm0 k PySem.F.slot_list_reverse PySem.F.type_list_reverse mt_reverse ho hk (fun T tv σ H Q h q => by
    obtain ⟨G, as, bs, z⟩ := h
    obtain ⟨l, o, m, r, rfl, hp, hc, reb⟩ := z.cel.at k hk (by nofun)
    unfold mlC at hc
    cases hc with
    | @lst _ vs _ hs =>
      refine ⟨p, vs, rfl, rfl, hp, ?_⟩
      obtain ⟨m', pm, h2⟩ := ss_rev hs
      have inb : p ∈ as ++ (l ++ p :: m ++ r) := List.mem_append_right _ (List.mem_append_left _ (List.mem_append_right _ List.mem_cons_self))
      have nd := z.nod
      have pmA : (as ++ (l ++ p :: m ++ r)).Perm (p :: (as ++ (l ++ m ++ r))) := by
        rw [List.append_assoc l (p :: m) r, List.append_assoc l m r]
        exact (List.Perm.append_left as (List.perm_middle (l₁ := l) (l₂ := m ++ r))).trans (List.perm_middle (l₁ := as))
      have ndp := (List.nodup_cons.mp (pmA.nodup_iff.mp nd)).1
      have ne : ∀ a, a ∈ as ++ (l ++ m ++ r) → upd H p (.lst vs.reverse) a = H a := fun a ha => upd_ne fun e => ndp (e ▸ ha)
      have nG := (z.fre p inb).1
      have nF := (z.fre p inb).2
      have hnew : CeI G (upd H p (.lst vs.reverse)) (mlC f xs.reverse) (.lst vs.reverse) m' := by
        unfold mlC
        rw [List.map_reverse]
        exact .lst (h2.mono (Ex.refl G) fun a ha => ne a (by simp [pm.mem_iff.mp ha]))
      have c2 := (reb (Ex.refl G) (H' := upd H p (.lst vs.reverse)) fun a ha => ne a (by rcases List.mem_append.mp ha with h | h <;> simp [h])).1 upd_same hnew
      have pm2 : (as ++ (l ++ p :: m' ++ r)).Perm (as ++ (l ++ p :: m ++ r)) := List.Perm.append_left as (List.Perm.append_right r (List.Perm.append_left l (List.Perm.cons p pm)))
      exact q _ _ ⟨G, [] ++ as, _, .cons .v (z.tmp.mono (Ex.refl G) fun a ha => ne a (by simp [ha])), c2, z.slo, pm2.nodup_iff.mpr nd, fun a ha => z.fre a (pm2.mem_iff.mp ha), z.gro, z.new, fun a u ha => by rw [upd_ne fun e => by rw [e, nG] at ha; cases ha]; exact z.sub a u ha, fun a u ha => by rw [upd_ne fun e => by rw [e, nF] at ha; cases ha]; exact z.frm a u ha⟩) hbase hline
/-- for line in lot: line.reverse() -/
def revAtM (s : List (List Int)) (a : Addr × Nat) : Option (List (List Int)) := (gx s ((a.2 : Nat) : Int)).bind fun x => some (s.set ((a.2 : Nat) : Int).toNat x.reverse)
theorem revAll_at : ∀ (post : List (List Int)) (pre : List (List Int)) (qs : List Addr), qs.length = post.length → forM revAtM ((qs.zipIdx pre.length)) (pre ++ post) = some (pre ++ post.map List.reverse)
  | [], pre, [], _ => by simp [forM]
  | x :: post, pre, q :: qs, h => by
    show (revAtM (pre ++ x :: post) (q, pre.length)).bind (forM revAtM (qs.zipIdx (pre.length + 1))) = _
    have e : revAtM (pre ++ x :: post) (q, pre.length) = some ((pre ++ [x.reverse]) ++ post) := by
      unfold revAtM
      dsimp only
      unfold gx
      rw [if_pos (by omega), Int.toNat_natCast, List.getElem?_append_right (Nat.le_refl _), Nat.sub_self]
      show some _ = some _
      rw [List.set_append_right _ _ (Nat.le_refl _), Nat.sub_self, List.set_cons_zero, List.append_assoc]
      rfl
    have ih := revAll_at post (pre ++ [x.reverse]) qs (Nat.succ.inj h)
    rw [List.length_append] at ih
    rw [e]
    refine Eq.trans ih ?_
    rw [List.append_assoc]
    rfl
theorem revAll_ok {xss : List (List Int)} {qs : List Addr} (h : qs.length = xss.length) : forM revAtM (idxs qs) xss = some (xss.map List.reverse) := revAll_at xss [] qs h
theorem low_two (a b : Int) : Low (.tuple [.int a, .int b]) := low_tup fun x hx => by
  rcases List.mem_cons.mp hx with rfl | hx
  · exact low_int a
  rcases List.mem_cons.mp hx with rfl | hx
  · exact low_int b
  nomatch hx
theorem low_oe : ∀ d : Option (Int × Int), Low (Datum.toD d)
  | none => low_non
  | some q => low_two q.1 q.2
theorem low_ev (t : PySem.W.T4 Str Int Int (Option (Int × Int))) : Low (Datum.toD t) := low_tup (ds := [.str t.a, .int t.b, .int t.c, Datum.toD t.d]) fun x hx => by
  rcases List.mem_cons.mp hx with rfl | hx
  · exact low_str _
  rcases List.mem_cons.mp hx with rfl | hx
  · exact low_int _
  rcases List.mem_cons.mp hx with rfl | hx
  · exact low_int _
  rcases List.mem_cons.mp hx with rfl | hx
  · exact low_oe _
  nomatch hx
end
end J
namespace Gk60
open PySem PySem.Spec PyProof.Rows L2
/-! ### the mirrors -/
def m_law_bag_b0 (s2 : ((List Int) × Int)) (x4 : Int) : Option ((List Int) × Int) :=
  ((if (decide (x4 < 0)) = true then ( some (3 - x4)) else ( some x4) : Option Int)).bind fun s5 => (some (((((s2.2 * 1000003) + s5) + 1) % (2305843009213693952 - 1)) : Int)).bind fun x7 => ((if (decide (1000000000000000000 ≤ s5)) = true then ((J.psh s2.1 (s5 - 1000000000000000000)).bind fun x10 => some x10) else ( some s2.1) : Option (List Int))).bind fun s8 => some (s8, x7)
def m_law_bag (a0 : List Int) : Option ((List Int) × (Int × Int)) :=
  (J.forM (m_law_bag_b0) a0 (([] : List Int), 5)).bind fun s11 => some (s11.1, (s11.2, 0))
def m_law_draw_t0 (s1 : (List Int)) : Option Bool :=
  (J.andM (decide (s1 ≠ ([] : List Int))) ((J.gx s1 0).bind fun x3 => some (decide (x3 = 0)))).bind fun x4 => some x4
def m_law_draw_w1 (s1 : (List Int)) : Option (List Int) :=
  (J.popG s1 0).bind fun x5 => some x5.2
def m_law_draw (a1 : Int) (a0_0 : (List Int)) (a0_1 : Int) (a0_2 : Int) : Option (Int × (Int × (List Int))) :=
  (J.whileM (m_law_draw_t0) (m_law_draw_w1) 1000000 a0_0).bind fun s6 => if (decide (s6 ≠ ([] : List Int))) = true then ((J.gx s6 0).bind fun x7 => (J.modG x7 a1).bind fun x8 => (J.gx s6 0).bind fun x9 => (J.divG x9 a1).bind fun x10 => (J.stx s6 0 x10).bind fun x11 => some (x8, ((a0_2 + 1), x11))) else ( (J.powG ((a0_2 + 1) + 11) 3).bind fun x12 => (J.mulG (a0_1 + 40961) x12).bind fun x13 => (some (((x13 + (7907 * (a0_2 + 1))) % (2305843009213693952 - 1)) : Int)).bind fun x14 => (J.powG x14 3).bind fun x15 => (J.modG ((x15 % (1000000000000000000 + 9)) / 64) a1).bind fun x16 => some (x16, ((a0_2 + 1), s6)))
def m_law_pages (a0_0 : (List Int)) (a0_1 : Int) (a0_2 : Int) : Option ((List Int) × (Int × (List Int))) :=
  (m_law_draw 80 a0_0 a0_1 a0_2).bind fun x1 => (some (([0, 1, 2, 9, 10, 100, (1000000000 - 1), 1000000000, (11 + x1.1)] : List Int) : (List Int))).bind fun x2 => (m_law_draw 9 x1.2.2 a0_1 x1.2.1).bind fun x3 => (J.catG (J.slc x2 (some x3.1) none) (J.slc x2 none (some x3.1))).bind fun x4 => some (x4, (x3.2.1, x3.2.2))
def m_law_line_c0 (x6 : (Int × (Int × (List Int)))) (x7 : (Int × (Int × (List Int)))) (s10 : Unit) (x12 : Int) : Option (Option Int × Unit) :=
  (J.mulG (1 + x7.1) x12).bind fun x13 => some (some (x6.1 + x13), ())
def m_law_line_b1 (a0_1 : Int) (s4 : (Int × ((List Int) × ((List Int) × Int)))) (x15 : (Int × (Int × (List Int)))) (s19 : (Int × ((List Int) × (List Int)))) (x21 : Int) : Option (Int × ((List Int) × (List Int))) :=
  (m_law_draw s4.2.2.2 s19.2.1 a0_1 s19.1).bind fun x22 => (m_law_draw s4.2.2.2 x22.2.2 a0_1 x22.2.1).bind fun x23 => (J.modG x21 s4.2.2.2).bind fun x24 => (J.modG (x21 / 3) s4.2.2.2).bind fun x25 => (J.gx ([x22.1, x23.1, x24, x25] : List Int) x15.1).bind fun x26 => (m_law_draw 8 x23.2.2 a0_1 x23.2.1).bind fun x27 => ((if (decide (x27.1 = 0)) = true then ((m_law_draw ((s4.2.2.1).length : Int) x27.2.2 a0_1 x27.2.1).bind fun x30 => some (x30.2.1, (x30.2.2, x30.1))) else ( some (x27.2.1, (x27.2.2, x26))) : Option (Int × ((List Int) × Int)))).bind fun s28 => (J.gx s4.2.2.1 s28.2.2).bind fun x31 => (J.psh s19.2.2 x31).bind fun x32 => some (s28.1, (s28.2.1, x32))
def m_law_line (a1 : Int) (a0_0 : (List Int)) (a0_1 : Int) (a0_2 : Int) : Option ((List Int) × (Int × (List Int))) :=
  (m_law_pages a0_0 a0_1 a0_2).bind fun x1 => (m_law_draw 9 x1.2.2 a0_1 x1.2.1).bind fun x2 => (m_law_draw 4 x2.2.2 a0_1 x2.2.1).bind fun x3 => ((if (decide (x3.1 = 3)) = true then ((m_law_draw 100000000 x3.2.2 a0_1 x3.2.1).bind fun x6 => (m_law_draw 1000000 x6.2.2 a0_1 x6.2.1).bind fun x7 => (m_law_draw 71 x7.2.2 a0_1 x7.2.1).bind fun x8 => (J.rngG (10 + x8.1)).bind fun x9 => (J.lcM (m_law_line_c0 x6 x7) x9 ()).bind fun x14 => some (x8.2.1, (x8.2.2, (x14.1, ((x14.1).length : Int))))) else ( some (x3.2.1, (x3.2.2, (x1.1, (1 + x2.1))))) : Option (Int × ((List Int) × ((List Int) × Int))))).bind fun s4 => (m_law_draw 4 s4.2.1 a0_1 s4.1).bind fun x15 => (m_law_draw (a1 + 1) x15.2.2 a0_1 x15.2.1).bind fun x17 => (J.rngG x17.1).bind fun x18 => (J.forM (m_law_line_b1 a0_1 s4 x15) x18 (x17.2.1, (x17.2.2, ([] : List Int)))).bind fun s33 => some (s33.2.2, (s33.1, s33.2.1))
def m_law_lot_c0 (a0_1 : Int) (s3 : (Int × (List Int))) (x5 : Int) : Option (Option (List Int) × (Int × (List Int))) :=
  (m_law_draw 8 s3.2 a0_1 s3.1).bind fun x6 => (J.gx ([5, 9, 14, 14, 30, 30, 60, 200] : List Int) x6.1).bind fun x7 => (m_law_line x7 x6.2.2 a0_1 x6.2.1).bind fun x8 => some (some x8.1, (x8.2.1, x8.2.2))
def m_law_lot (a0_0 : (List Int)) (a0_1 : Int) (a0_2 : Int) : Option ((List (List Int)) × (Int × (List Int))) :=
  (m_law_draw 7 a0_0 a0_1 a0_2).bind fun x1 => (J.rngG x1.1).bind fun x2 => (J.lcM (m_law_lot_c0 a0_1) x2 (x1.2.1, x1.2.2)).bind fun x9 => some (x9.1, (x9.2.1, x9.2.2))
def m_law_many (a0_0 : (List Int)) (a0_1 : Int) (a0_2 : Int) : Option (Int × (Int × (List Int))) :=
  (m_law_draw 8 a0_0 a0_1 a0_2).bind fun x1 => (m_law_draw 16 x1.2.2 a0_1 x1.2.1).bind fun x2 => (m_law_draw 64 x2.2.2 a0_1 x2.2.1).bind fun x3 => (m_law_draw 5 x3.2.2 a0_1 x3.2.1).bind fun x4 => (J.gx ([1, 2, (1 + x1.1), (1 + x2.1), (1 + x3.1)] : List Int) x4.1).bind fun x5 => some (x5, (x4.2.1, x4.2.2))
def m_law_size (a0_0 : (List Int)) (a0_1 : Int) (a0_2 : Int) : Option (Int × (Int × (List Int))) :=
  (m_law_draw 9 a0_0 a0_1 a0_2).bind fun x1 => (m_law_draw 4 x1.2.2 a0_1 x1.2.1).bind fun x2 => (J.gx ([1, 2, (1 + x1.1), 300] : List Int) x2.1).bind fun x3 => some (x3, (x2.2.1, x2.2.2))
def m_law_rounds_c0 (s1 : Unit) (x3 : (List Int)) : Option (Option Int × Unit) :=
   some (some 0, ())
def m_law_rounds_c1 (a0 : (List (List Int))) (s7 : ((List Int) × (List (Int × Int)))) (s10 : Unit) (x12 : Int) : Option (Option Int × Unit) :=
  (J.gx s7.1 x12).bind fun x13 => (J.gx a0 x12).bind fun x14 => if (decide (x13 < ((x14).length : Int))) = true then  some (some x12, ()) else some (none, ())
def m_law_rounds_b2 (x19 : Int) (s23 : (List (Int × Int))) (x25 : Int) : Option (List (Int × Int)) :=
  (J.psh s23 (x19, x25)).bind fun x26 => some x26
def m_law_rounds_b3 (a0 : (List (List Int))) (a1 : Int) (s17 : ((List Int) × (List (Int × Int)))) (x19 : Int) : Option ((List Int) × (List (Int × Int))) :=
  (J.gx a0 x19).bind fun x20 => (J.gx s17.1 x19).bind fun x21 => (J.gx s17.1 x19).bind fun x22 => (J.forM (m_law_rounds_b2 x19) (J.slc x20 (some x21) (some (x22 + a1))) s17.2).bind fun s27 => (J.gx s17.1 x19).bind fun x28 => (J.stx s17.1 x19 (x28 + a1)).bind fun x29 => some (x29, s27)
def m_law_rounds_t4 (a0 : (List (List Int))) (s7 : ((List Int) × (List (Int × Int)))) : Option Bool :=
  (J.rngG ((a0).length : Int)).bind fun x9 => (J.lcM (m_law_rounds_c1 a0 s7) x9 ()).bind fun x15 => some (decide (x15.1 ≠ ([] : List Int)))
def m_law_rounds_w5 (a0 : (List (List Int))) (a1 : Int) (s7 : ((List Int) × (List (Int × Int)))) : Option ((List Int) × (List (Int × Int))) :=
  (J.rngG ((a0).length : Int)).bind fun x16 => (J.forM (m_law_rounds_b3 a0 a1) x16 (s7.1, s7.2)).bind fun s30 => some (s30.1, s30.2)
def m_law_rounds (a0 : (List (List Int))) (a1 : Int) : Option (List (Int × Int)) :=
  (J.lcM (m_law_rounds_c0) a0 ()).bind fun x4 => (J.whileM (m_law_rounds_t4 a0) (m_law_rounds_w5 a0 a1) 1000000 (x4.1, ([] : List (Int × Int)))).bind fun s31 => some s31.2
def m_law_due_c0 (s4 : ((List ((Int × Int) × Int)) × (List (PySem.W.T4 PySem.Str Int Int (Option (Int × Int)))))) (s10 : Unit) (x12 : (Int × Int)) : Option (Option (Int × (Int × Int)) × Unit) :=
  (J.tget s4.1 x12).bind fun x13 => some (some (x13, x12), ())
def m_law_due_b1 (a1 : Int) (s4 : ((List ((Int × Int) × Int)) × (List (PySem.W.T4 PySem.Str Int Int (Option (Int × Int)))))) (x6 : (Int × (Int × Int))) : Option ((List ((Int × Int) × Int)) × (List (PySem.W.T4 PySem.Str Int Int (Option (Int × Int))))) :=
  (J.ifM (J.thas s4.1 x6.2) ( some ("hit" : PySem.Str)) ( some ("fault" : PySem.Str))).bind fun x7 => ((if ((decide (x7 = ("fault" : PySem.Str))) && (decide (((s4.1).length : Int) = a1))) = true then ((J.lcM (m_law_due_c0 s4) (s4.1.map (·.1)) ()).bind fun x14 => (J.minG x14.1).bind fun x15 => ((some x15.2)).bind fun x16 => (J.tget s4.1 x16).bind fun x17 => some ((J.tdrop s4.1 x16), (some x15.2))) else ( some (s4.1, none)) : Option ((List ((Int × Int) × Int)) × (Option (Int × Int))))).bind fun s8 => (J.tputG s8.1 x6.2 x6.1).bind fun x18 => (J.psh s4.2 (PySem.W.T4.mk x7 x6.2.1 x6.2.2 s8.2)).bind fun x19 => some (x18, x19)
def m_law_due (a0 : (List (List Int))) (a1 : Int) (a2 : Int) : Option (List (PySem.W.T4 PySem.Str Int Int (Option (Int × Int)))) :=
  (m_law_rounds a0 a2).bind fun x3 => (J.forM (m_law_due_b1 a1) (J.enu 0 x3) (([] : List ((Int × Int) × Int)), ([] : List (PySem.W.T4 PySem.Str Int Int (Option (Int × Int)))))).bind fun s20 => some s20.2
def m_need_room (a0 : Int) : Option Unit :=
   if (decide (a0 < 1)) = true then ( none) else (  some ())
def m_Line_init (a1 : Int) : Option (Int × (List (Int × Int))) :=
   some (a1, ([] : List (Int × Int)))
def m_Room_init (a1 : Int) : Option (Int × (List (Int × Int))) :=
  (m_Line_init a1).bind fun x1 => some (x1.1, x1.2)
def m_by_rounds_c0 (s2 : Unit) (x4 : (List Int)) : Option (Option Int × Unit) :=
   some (some ((x4).length : Int), ())
def m_by_rounds_c1 (x12 : (Int × (List Int))) (s13 : Unit) (x15 : Int) : Option (Option (Int × Int) × Unit) :=
   some (some (x12.1, x15), ())
def m_by_rounds_b2 (a1 : Int) (x9 : Int) (s10 : (List (Int × Int))) (x12 : (Int × (List Int))) : Option (List (Int × Int)) :=
  (J.lcM (m_by_rounds_c1 x12) (J.slc x12.2 (some x9) (some (x9 + a1))) ()).bind fun x16 => (J.catG s10 x16.1).bind fun x17 => some x17
def m_by_rounds_b3 (a0 : (List (List Int))) (a1 : Int) (s7 : (List (Int × Int))) (x9 : Int) : Option (List (Int × Int)) :=
  (J.forM (m_by_rounds_b2 a1 x9) (J.enu 0 a0) s7).bind fun s18 => some s18
def m_by_rounds (a0 : (List (List Int))) (a1 : Int) : Option (List (Int × Int)) :=
  (J.lcM (m_by_rounds_c0) a0 ()).bind fun x5 => (J.rngG3 0 (J.maxDf x5.1 0) a1).bind fun x6 => (J.forM (m_by_rounds_b3 a0 a1) x6 ([] : List (Int × Int))).bind fun s19 => some s19
def m_Line_ask (a1 : (Int × Int)) (a0_0 : Int) (a0_1 : (List (Int × Int))) : Option ((PySem.Str × (Option (Int × Int))) × (List (Int × Int))) :=
   if (J.memD a1 a0_1) = true then ( (J.remG a0_1 a1).bind fun x1 => (J.psh x1 a1).bind fun x2 =>  some ((("hit" : PySem.Str), (none : Option (Int × Int))), x2)) else ( ((if (decide (((a0_1).length : Int) = a0_0)) = true then ((J.popG a0_1 0).bind fun x5 => some (x5.2, (some x5.1))) else ( some (a0_1, none)) : Option ((List (Int × Int)) × (Option (Int × Int))))).bind fun s3 => (J.psh s3.1 a1).bind fun x6 => some ((("fault" : PySem.Str), s3.2), x6))
def m_Line_ask_1 (a1 : (Int × Int)) (a0_0 : Int) (a0_1 : (List (Int × Int))) : Option ((PySem.Str × (Option (Int × Int))) × (List (Int × Int))) :=
   if (J.memD a1 a0_1) = true then ( (J.remG a0_1 a1).bind fun x1 => (J.psh x1 a1).bind fun x2 =>  some ((("hit" : PySem.Str), (none : Option (Int × Int))), x2)) else ( ((if (decide (((a0_1).length : Int) = a0_0)) = true then ((J.popG a0_1 0).bind fun x5 => some (x5.2, (some x5.1))) else ( some (a0_1, none)) : Option ((List (Int × Int)) × (Option (Int × Int))))).bind fun s3 => (J.psh s3.1 a1).bind fun x6 => some ((("fault" : PySem.Str), s3.2), x6))
def m_Room_ask (a1 : (Int × Int)) (a0_0_0 : Int) (a0_0_1 : (List (Int × Int))) : Option ((PySem.Str × (Option (Int × Int))) × (List (Int × Int))) :=
  (m_Line_ask_1 a1 a0_0_0 a0_0_1).bind fun x1 => some (x1.1, x1.2)
def m_Room_ask_1 (a1 : (Int × Int)) (a0_0_0 : Int) (a0_0_1 : (List (Int × Int))) : Option ((PySem.Str × (Option (Int × Int))) × (List (Int × Int))) :=
  (m_Line_ask_1 a1 a0_0_0 a0_0_1).bind fun x1 => some (x1.1, x1.2)
def m_loose_b0 (x2 : (Int × (List (Int × Int)))) (s8 : ((List (Int × Int)) × (List (PySem.W.T4 PySem.Str Int Int (Option (Int × Int)))))) (x10 : (Int × Int)) : Option ((List (Int × Int)) × (List (PySem.W.T4 PySem.Str Int Int (Option (Int × Int))))) :=
  (m_Room_ask_1 (x10.1, x10.2) x2.1 s8.1).bind fun x11 => (J.psh s8.2 (PySem.W.T4.mk x11.1.1 x10.1 x10.2 x11.1.2)).bind fun x12 => some (x11.2, x12)
def m_loose (a0 : (List (List Int))) (a1 : Int) (a2 : Int) : Option (List (PySem.W.T4 PySem.Str Int Int (Option (Int × Int)))) :=
  (m_need_room a1).bind fun x1 => if (decide (a2 < 1)) = true then ( none) else ( (m_Room_init a1).bind fun x2 => (m_by_rounds a0 a2).bind fun x7 => (J.forM (m_loose_b0 x2) x7 (x2.2, ([] : List (PySem.W.T4 PySem.Str Int Int (Option (Int × Int)))))).bind fun s13 => some s13.2)
def m_law_c0 (x1 : ((List Int) × (Int × Int))) (s5 : (Int × (List Int))) (x7 : Int) : Option (Option (PySem.W.T3 (List (List Int)) Int Int) × (Int × (List Int))) :=
  (m_law_lot s5.2 x1.2.1 s5.1).bind fun x8 => (m_law_many x8.2.2 x1.2.1 x8.2.1).bind fun x9 => (m_law_size x9.2.2 x1.2.1 x9.2.1).bind fun x10 => some (some (PySem.W.T3.mk x8.1 x9.1 x10.1), (x10.2.1, x10.2.2))
def m_law_b1 (x13 : ((PySem.W.T3 (List (List Int)) Int Int) × (PySem.W.T3 (List (List Int)) Int Int))) (x16 : PySem.Str) (s17 : Unit) (x19 : Int) : Option (J.Lp Unit Bool) :=
  if decide (x19 = (0 : Int)) = true then ((m_law_due x13.1.a x13.1.b x13.1.c).bind fun x20 => (J.ifM (decide (x13.1.c = 1)) ((m_loose x13.1.a x13.1.b 1).bind fun x21 => some x21) ((m_loose x13.1.a x13.1.b x13.1.c).bind fun x22 => some x22)).bind fun x23 => (J.orM (!true) ((J.reprG (PySem.W.Datum.toD (x23 : List (PySem.W.T4 PySem.Str Int Int (Option (Int × Int)))))).bind fun x25 => (J.reprG (PySem.W.Datum.toD (x20 : (List (PySem.W.T4 PySem.Str Int Int (Option (Int × Int))))))).bind fun x26 => (J.orM (decide (x25 ≠ x26)) ((J.reprG (PySem.W.Datum.toD (([PySem.W.T3.mk x13.1.a x13.1.b x13.1.c, PySem.W.T3.mk x13.2.a x13.2.b x13.2.c] : (List (PySem.W.T3 (List (List Int)) Int Int))) : (List (PySem.W.T3 (List (List Int)) Int Int))))).bind fun x27 => some (decide (x27 ≠ x16)))).bind fun x28 => some x28)).bind fun x29 => if x29 = true then ( some (.rt false)) else ( (J.psh x23 (PySem.W.T4.mk ("hit" : PySem.Str) 0 5 (none : Option (Int × Int)))).bind fun x30 => (m_loose x13.1.a x13.1.b x13.1.c).bind fun x31 => (J.reprG (PySem.W.Datum.toD (x31 : (List (PySem.W.T4 PySem.Str Int Int (Option (Int × Int))))))).bind fun x32 => (J.reprG (PySem.W.Datum.toD (x20 : (List (PySem.W.T4 PySem.Str Int Int (Option (Int × Int))))))).bind fun x33 => if (decide (x32 ≠ x33)) = true then ( some (.rt false)) else (  some (.nx ())))) else (if decide (x19 = (1 : Int)) = true then ((m_law_due x13.2.a x13.2.b x13.2.c).bind fun x34 => (J.ifM (decide (x13.2.c = 1)) ((m_loose x13.2.a x13.2.b 1).bind fun x35 => some x35) ((m_loose x13.2.a x13.2.b x13.2.c).bind fun x36 => some x36)).bind fun x37 => (J.orM (!true) ((J.reprG (PySem.W.Datum.toD (x37 : List (PySem.W.T4 PySem.Str Int Int (Option (Int × Int)))))).bind fun x39 => (J.reprG (PySem.W.Datum.toD (x34 : (List (PySem.W.T4 PySem.Str Int Int (Option (Int × Int))))))).bind fun x40 => (J.orM (decide (x39 ≠ x40)) ((J.reprG (PySem.W.Datum.toD (([PySem.W.T3.mk x13.1.a x13.1.b x13.1.c, PySem.W.T3.mk x13.2.a x13.2.b x13.2.c] : (List (PySem.W.T3 (List (List Int)) Int Int))) : (List (PySem.W.T3 (List (List Int)) Int Int))))).bind fun x41 => some (decide (x41 ≠ x16)))).bind fun x42 => some x42)).bind fun x43 => if x43 = true then ( some (.rt false)) else ( (J.psh x37 (PySem.W.T4.mk ("hit" : PySem.Str) 0 5 (none : Option (Int × Int)))).bind fun x44 => (m_loose x13.2.a x13.2.b x13.2.c).bind fun x45 => (J.reprG (PySem.W.Datum.toD (x45 : (List (PySem.W.T4 PySem.Str Int Int (Option (Int × Int))))))).bind fun x46 => (J.reprG (PySem.W.Datum.toD (x34 : (List (PySem.W.T4 PySem.Str Int Int (Option (Int × Int))))))).bind fun x47 => if (decide (x46 ≠ x47)) = true then ( some (.rt false)) else (  some (.nx ())))) else (none))
def m_law (a0 : List Int) : Option Bool :=
  (m_law_bag a0).bind fun x1 => (J.rngG 2).bind fun x4 => (J.lcM (m_law_c0 x1) x4 (x1.2.2, x1.1)).bind fun x11 => (J.two x11.1).bind fun x13 => (J.reprG (PySem.W.Datum.toD (([PySem.W.T3.mk x13.1.a x13.1.b x13.1.c, PySem.W.T3.mk x13.2.a x13.2.b x13.2.c] : (List (PySem.W.T3 (List (List Int)) Int Int))) : (List (PySem.W.T3 (List (List Int)) Int Int))))).bind fun x16 => (J.forL (m_law_b1 x13 x16) ([0, 1, 0] : List Int) ()).bind fun o63 => Sum.elim (fun s62 => (some (((x13.1.a).reverse : List (List Int)).map List.reverse)).bind fun z64 => (m_loose z64 x13.1.b x13.1.c).bind fun x67 => (J.reprG (PySem.W.Datum.toD (x67 : (List (PySem.W.T4 PySem.Str Int Int (Option (Int × Int))))))).bind fun x68 => (m_law_due z64 x13.1.b x13.1.c).bind fun x69 => (J.reprG (PySem.W.Datum.toD (x69 : (List (PySem.W.T4 PySem.Str Int Int (Option (Int × Int))))))).bind fun x70 => some (decide (x68 = x70))) (fun r => some r) o63
/-! ### the text -/
def top (i : Nat) : Stmt := PySem.Challenge.pw_pagerooms_k60_loose_told.main.body.getD i (.Pass ⟨0, 0, 0, 0⟩)
abbrev s__law_bag : Stmt := top 14
abbrev s__law_draw : Stmt := top 15
abbrev s__law_pages : Stmt := top 16
abbrev s__law_line : Stmt := top 17
abbrev s__law_lot : Stmt := top 18
abbrev s__law_many : Stmt := top 19
abbrev s__law_size : Stmt := top 20
abbrev s__law_rounds : Stmt := top 21
abbrev s__law_due : Stmt := top 22
abbrev s_need_room : Stmt := top 5
abbrev s_Line_init : Stmt := inClass (top 6) 0
abbrev s_Room_init : Stmt := inClass (top 8) 0
abbrev s_by_rounds : Stmt := top 11
abbrev s_Line_ask : Stmt := inClass (top 6) 1
abbrev s_Room_ask : Stmt := inClass (top 8) 1
abbrev s_loose : Stmt := top 12
abbrev s_law : Stmt := top 23
abbrev FnP (K : PySem.W.Frag) (x : Str) (st : Stmt) (f : Addr) (fd : FuncData) : Prop := FunD K x x (defArgs st) (defBody st) (defScope st) [] [] f fd
theorem sc__law_bag : FnScope ["script", "great", "fold", "cell"] ["script"] (defScope s__law_bag) := ⟨rfl, rfl, rfl, by decide +kernel, rfl, by decide +kernel, by decide +kernel⟩
theorem sc__law_draw : FnScope ["bag", "many", "great", "mixed", "one"] ["bag", "many"] (defScope s__law_draw) := ⟨rfl, rfl, rfl, by decide +kernel, rfl, by decide +kernel, by decide +kernel⟩
theorem sc__law_pages : FnScope ["bag", "base", "at"] ["bag"] (defScope s__law_pages) := ⟨rfl, rfl, rfl, by decide +kernel, rfl, by decide +kernel, by decide +kernel⟩
theorem sc__law_line : FnScope ["bag", "most", "some", "many", "kind", "found", "k", "first", "step", "at"] ["bag", "most"] (defScope s__law_line) := ⟨rfl, rfl, rfl, by decide +kernel, rfl, by decide +kernel, by decide +kernel⟩
theorem sc__law_lot : FnScope ["bag", "k"] ["bag"] (defScope s__law_lot) := ⟨rfl, rfl, rfl, by decide +kernel, rfl, by decide +kernel, by decide +kernel⟩
theorem sc__law_many : FnScope ["bag"] ["bag"] (defScope s__law_many) := ⟨rfl, rfl, rfl, by decide +kernel, rfl, by decide +kernel, by decide +kernel⟩
theorem sc__law_size : FnScope ["bag"] ["bag"] (defScope s__law_size) := ⟨rfl, rfl, rfl, by decide +kernel, rfl, by decide +kernel, by decide +kernel⟩
theorem sc__law_rounds : FnScope ["lot", "size", "at", "found", "k", "one", "page"] ["lot", "size"] (defScope s__law_rounds) := ⟨rfl, rfl, rfl, by decide +kernel, rfl, by decide +kernel, by decide +kernel⟩
theorem sc__law_due : FnScope ["lot", "many", "size", "since", "found", "number", "one", "gone", "word", "other"] ["lot", "many", "size"] (defScope s__law_due) := ⟨rfl, rfl, rfl, by decide +kernel, rfl, by decide +kernel, by decide +kernel⟩
theorem sc_need_room : FnScope ["room"] ["room"] (defScope s_need_room) := ⟨rfl, rfl, rfl, by decide +kernel, rfl, by decide +kernel, by decide +kernel⟩
theorem sc_Line_init : FnScope ["self", "room", "is_moved"] ["self", "room", "is_moved"] (defScope s_Line_init) := ⟨rfl, rfl, rfl, by decide +kernel, rfl, by decide +kernel, by decide +kernel⟩
theorem sc_Room_init : FnScope ["self", "room", "rule"] ["self", "room", "rule"] (defScope s_Room_init) := ⟨rfl, rfl, rfl, by decide +kernel, rfl, by decide +kernel, by decide +kernel⟩
theorem sc_by_rounds : FnScope ["traces", "turn", "found", "begun", "job", "trace", "page"] ["traces", "turn"] (defScope s_by_rounds) := ⟨rfl, rfl, rfl, by decide +kernel, rfl, by decide +kernel, by decide +kernel⟩
theorem sc_Line_ask : FnScope ["self", "page", "gone"] ["self", "page"] (defScope s_Line_ask) := ⟨rfl, rfl, rfl, by decide +kernel, rfl, by decide +kernel, by decide +kernel⟩
theorem sc_Room_ask : FnScope ["self", "page"] ["self", "page"] (defScope s_Room_ask) := ⟨rfl, rfl, rfl, by decide +kernel, rfl, by decide +kernel, by decide +kernel⟩
theorem sc_loose : FnScope ["traces", "frames", "turn", "keeper", "found", "job", "page", "word", "gone"] ["traces", "frames", "turn"] (defScope s_loose) := ⟨rfl, rfl, rfl, by decide +kernel, rfl, by decide +kernel, by decide +kernel⟩
theorem sc_law : FnScope ["script", "bag", "sides", "kept", "k", "line", "due", "found", "lot", "many", "size"] ["script"] (defScope s_law) := ⟨rfl, rfl, rfl, by decide +kernel, rfl, by decide +kernel, by decide +kernel⟩
structure Wd (K : PySem.W.Frag) (mg : Str → Option Value) where
  C_Line : Addr
  gC_Line : mg "Line" = some (.ref C_Line)
  cl_Line : Cls K C_Line
  C_Room : Addr
  gC_Room : mg "Room" = some (.ref C_Room)
  cl_Room : Cls K C_Room
  na_Line_line_room : NoAttr K C_Line "line_room"
  na_Line_line_pages : NoAttr K C_Line "line_pages"
  na_Line_is_moved : NoAttr K C_Line "is_moved"
  na_Room_keeper : NoAttr K C_Room "keeper"
  gS_RULE : ∃ t, mg "RULE" = some (.str "last" t)
  a__law_bag : Addr
  d__law_bag : FuncData
  F__law_bag : FnP K "_law_bag" s__law_bag a__law_bag d__law_bag
  g__law_bag : mg "_law_bag" = some (.ref a__law_bag)
  b__law_bag : Binds K d__law_bag ["script"] []
  a__law_draw : Addr
  d__law_draw : FuncData
  F__law_draw : FnP K "_law_draw" s__law_draw a__law_draw d__law_draw
  g__law_draw : mg "_law_draw" = some (.ref a__law_draw)
  b__law_draw : Binds K d__law_draw ["bag", "many"] []
  a__law_pages : Addr
  d__law_pages : FuncData
  F__law_pages : FnP K "_law_pages" s__law_pages a__law_pages d__law_pages
  g__law_pages : mg "_law_pages" = some (.ref a__law_pages)
  b__law_pages : Binds K d__law_pages ["bag"] []
  a__law_line : Addr
  d__law_line : FuncData
  F__law_line : FnP K "_law_line" s__law_line a__law_line d__law_line
  g__law_line : mg "_law_line" = some (.ref a__law_line)
  b__law_line : Binds K d__law_line ["bag", "most"] []
  a__law_lot : Addr
  d__law_lot : FuncData
  F__law_lot : FnP K "_law_lot" s__law_lot a__law_lot d__law_lot
  g__law_lot : mg "_law_lot" = some (.ref a__law_lot)
  b__law_lot : Binds K d__law_lot ["bag"] []
  a__law_many : Addr
  d__law_many : FuncData
  F__law_many : FnP K "_law_many" s__law_many a__law_many d__law_many
  g__law_many : mg "_law_many" = some (.ref a__law_many)
  b__law_many : Binds K d__law_many ["bag"] []
  a__law_size : Addr
  d__law_size : FuncData
  F__law_size : FnP K "_law_size" s__law_size a__law_size d__law_size
  g__law_size : mg "_law_size" = some (.ref a__law_size)
  b__law_size : Binds K d__law_size ["bag"] []
  a__law_rounds : Addr
  d__law_rounds : FuncData
  F__law_rounds : FnP K "_law_rounds" s__law_rounds a__law_rounds d__law_rounds
  g__law_rounds : mg "_law_rounds" = some (.ref a__law_rounds)
  b__law_rounds : Binds K d__law_rounds ["lot", "size"] []
  a__law_due : Addr
  d__law_due : FuncData
  F__law_due : FnP K "_law_due" s__law_due a__law_due d__law_due
  g__law_due : mg "_law_due" = some (.ref a__law_due)
  b__law_due : Binds K d__law_due ["lot", "many", "size"] []
  a_need_room : Addr
  d_need_room : FuncData
  F_need_room : FnP K "need_room" s_need_room a_need_room d_need_room
  g_need_room : mg "need_room" = some (.ref a_need_room)
  b_need_room : Binds K d_need_room ["room"] []
  a_Line_init : Addr
  d_Line_init : FuncData
  F_Line_init : FunD K "__init__" "Line.__init__" (defArgs s_Line_init) (defBody s_Line_init) (defScope s_Line_init) [] [] a_Line_init d_Line_init
  b_Line_init : Binds K d_Line_init ["self", "room", "is_moved"] []
  k_Line_init : Mk K C_Line a_Line_init
  a_Room_init : Addr
  d_Room_init : FuncData
  F_Room_init : FunD K "__init__" "Room.__init__" (defArgs s_Room_init) (defBody s_Room_init) (defScope s_Room_init) [] [] a_Room_init d_Room_init
  b_Room_init : Binds K d_Room_init ["self", "room", "rule"] []
  k_Room_init : Mk K C_Room a_Room_init
  a_by_rounds : Addr
  d_by_rounds : FuncData
  F_by_rounds : FnP K "by_rounds" s_by_rounds a_by_rounds d_by_rounds
  g_by_rounds : mg "by_rounds" = some (.ref a_by_rounds)
  b_by_rounds : Binds K d_by_rounds ["traces", "turn"] []
  a_Line_ask : Addr
  d_Line_ask : FuncData
  F_Line_ask : FunD K "ask" "Line.ask" (defArgs s_Line_ask) (defBody s_Line_ask) (defScope s_Line_ask) [] [] a_Line_ask d_Line_ask
  b_Line_ask : Binds K d_Line_ask ["self", "page"] []
  m_Line_ask : Meth K C_Line "ask" a_Line_ask
  a_Room_ask : Addr
  d_Room_ask : FuncData
  F_Room_ask : FunD K "ask" "Room.ask" (defArgs s_Room_ask) (defBody s_Room_ask) (defScope s_Room_ask) [] [] a_Room_ask d_Room_ask
  b_Room_ask : Binds K d_Room_ask ["self", "page"] []
  m_Room_ask : Meth K C_Room "ask" a_Room_ask
  a_loose : Addr
  d_loose : FuncData
  F_loose : FunD K "loose" "loose" (defArgs s_loose) (defBody s_loose) (defScope s_loose) [] [("turn", V.int 1)] a_loose d_loose
  g_loose : mg "loose" = some (.ref a_loose)
  a_law : Addr
  d_law : FuncData
  F_law : FnP K "law" s_law a_law d_law
  g_law : mg "law" = some (.ref a_law)
  b_law : Binds K d_law ["script"] []
  l_enumerate : mg "enumerate" = none
  l_isinstance : mg "isinstance" = none
  l_len : mg "len" = none
  l_list : mg "list" = none
  l_max : mg "max" = none
  l_min : mg "min" = none
  l_range : mg "range" = none
  l_repr : mg "repr" = none
section
variable {P : Program} {w : World} {K : PySem.W.Frag} {mg : Str → Option Value} {base : Heap}
theorem kbe_loose_0 (W : Wd K mg) : ∃ mv : List Value, KBn K W.d_loose ["traces", "frames", "turn"] 2 [] (fun us ws => J.pick [0, 1, 2] (us ++ mv ++ ws)) (fun vs zs => J.pick [0, 1, 2] (vs ++ [V.int 1] ++ zs)) :=
  W.F_loose.kbinds0 2 [] [("turn", V.int 1)] (fun us mv ws => J.pick [0, 1, 2] (us ++ mv ++ ws)) (by nofun) (fun q h => by simpa using h) (fun r1 r2 r3 => J.pick_vals ((r1.append r2).append r3) _) (fun D doc pm an cdv ct us mv ws h1 h2 h3 => by
    match us, mv, ws, h1, h2, h3 with
    | [u0, u1], [m0], [], _, _, _ => exact ⟨_, _, _, _, _, _, rfl, rfl, rfl⟩)
theorem kbe_loose_1 (W : Wd K mg) : ∃ mv : List Value, KBn K W.d_loose ["traces", "frames", "turn"] 2 ["turn"] (fun us ws => J.pick [0, 1, 2] (us ++ mv ++ ws)) (fun vs zs => J.pick [0, 1, 2] (vs ++ [] ++ zs)) :=
  W.F_loose.kbinds0 2 ["turn"] [] (fun us mv ws => J.pick [0, 1, 2] (us ++ mv ++ ws)) (by nofun) (fun q h => by simpa using h) (fun r1 r2 r3 => J.pick_vals ((r1.append r2).append r3) _) (fun D doc pm an cdv ct us mv ws h1 h2 h3 => by
    match us, mv, ws, h1, h2, h3 with
    | [u0, u1], [], [w0], _, _, _ => exact rfl)
theorem kbe_loose_2 (W : Wd K mg) : ∃ mv : List Value, KBn K W.d_loose ["traces", "frames", "turn"] 0 ["turn", "frames", "traces"] (fun us ws => J.pick [2, 1, 0] (us ++ mv ++ ws)) (fun vs zs => J.pick [2, 1, 0] (vs ++ [] ++ zs)) :=
  W.F_loose.kbinds0 0 ["turn", "frames", "traces"] [] (fun us mv ws => J.pick [2, 1, 0] (us ++ mv ++ ws)) (by nofun) (fun q h => by simpa using h) (fun r1 r2 r3 => J.pick_vals ((r1.append r2).append r3) _) (fun D doc pm an cdv ct us mv ws h1 h2 h3 => by
    match us, mv, ws, h1, h2, h3 with
    | [], [], [w0, w1, w2], _, _, _ => exact rfl)
structure G_law_bag where
  p0 : PySem.Addr
  a0 : List Int
  out : ((List Int) × (Int × Int))
abbrev R_law_bag (r : ((List Int) × (Int × Int))) : J.Slot := (J.Slot.own (J.Cel.lst [(J.Slot.own (J.Cel.lst ((r.1 : List Int).map J.Slot.val))), (J.Slot.val (r.2.1 : Int)), (J.Slot.val (r.2.2 : Int))]))
abbrev C_law_bag (p0 : PySem.Addr) (a0 : List Int) (r : ((List Int) × (Int × Int))) : List (PySem.Addr × J.Cel) := []
abbrev A_law_bag (p0 : PySem.Addr) (a0 : List Int) : List J.Slot := [(J.Slot.v (.ref p0))]
abbrev D_law_bag (p0 : PySem.Addr) (a0 : List Int) : List (PySem.Addr × J.Cel) := []
def F_law_bag (K : PySem.W.Frag) : J.FS G_law_bag where
  pre := fun g => m_law_bag g.a0 = some g.out
  preG := fun g G => L2.SqL K G g.p0 (g.a0.map V.int)
  args := fun g => A_law_bag g.p0 g.a0
  cells := fun g => D_law_bag g.p0 g.a0
  res := fun g => R_law_bag g.out
  cells' := fun g => C_law_bag g.p0 g.a0 g.out
theorem ok_law_bag (W : Wd K mg) : FnOk P w K mg base CX0 1 W.a__law_bag W.d__law_bag ["script"] (F_law_bag K).sp := by
  refine J.fn_okD (F_law_bag K) W.F__law_bag sc__law_bag (fun g => rfl) (fun g => by intro s hs; simp only [F_law_bag, List.mem_cons, List.not_mem_nil, or_false] at hs; rcases hs with rfl <;> first | rfl | exact J.xsl_plain) (fun cdv A outer s H E hr B g h hG => ?_)
  have hN := (sc__law_bag).nd
  obtain ⟨p0, a0, r0⟩ := g
  change m_law_bag a0 = some r0 at h
  unfold m_law_bag at h
  change J.JS _ B (⟨[(J.Slot.v (.ref p0)), J.Slot.any, J.Slot.any, J.Slot.any], []⟩ : J.Stt) _ (J.fend B (F_law_bag K) ⟨p0, a0, r0⟩)
  refine J.js_new (hN := hN) 1 (J.je_lstv (xs := ([] : List Int)) J.ja_nil) fun p1 => ?_
  refine J.js_set (hN := hN) 2 J.je_int ?_
  obtain ⟨s11, hs11, h⟩ := J.bndE h
  refine J.js_forE (π := Unit) (f := m_law_bag_b0) (Sf := fun (q3 : Unit) (s2 : ((List Int) × Int)) => (⟨[(J.Slot.v (.ref p0)), (J.Slot.v (.ref p1)), (J.Slot.val (s2.2 : Int)), J.Slot.any], [(p1, (J.Cel.lst ((s2.1 : List Int).map J.Slot.val)))]⟩ : J.Stt)) (Sb := fun (q3 : Unit) (s2 : ((List Int) × Int)) (x4 : Int) => (⟨[(J.Slot.v (.ref p0)), (J.Slot.v (.ref p1)), (J.Slot.val (s2.2 : Int)), (J.Slot.val (x4 : Int))], [(p1, (J.Cel.lst ((s2.1 : List Int).map J.Slot.val)))]⟩ : J.Stt)) hs11 (J.ji_pre (ns := a0) (J.je_var 0 rfl) hG) (fun _ _ _ _ g => ⟨(), J.le_fgt (sl := [(J.Slot.v (.ref p0)), (J.Slot.v (.ref p1)), (J.Slot.val ((([] : List Int), 5).2 : Int)), J.Slot.any]) (cs := [(p1, (J.Cel.lst (((([] : List Int), 5).1 : List Int).map J.Slot.val)))]) 1 (.keep (.keep (.keep (.drop .nil)))) rfl _ _ _ _ g⟩) (fun _ _ => trivial) (fun q3 s2 x4 => (J.jg_name 3 (hN := hN))) (fun q3 s2 x4 sY _ h => ?_) (fun q3 => ?_)
  · unfold m_law_bag_b0 at h
    change J.JS _ _ (⟨[(J.Slot.v (.ref p0)), (J.Slot.v (.ref p1)), (J.Slot.val (s2.2 : Int)), (J.Slot.val (x4 : Int))], [(p1, (J.Cel.lst ((s2.1 : List Int).map J.Slot.val)))]⟩ : J.Stt) _ _
    obtain ⟨s5, hs5, h⟩ := J.bndE h
    refine J.js_ifE (π := Unit) (Sq := fun (q6 : Unit) => (⟨[(J.Slot.v (.ref p0)), (J.Slot.v (.ref p1)), (J.Slot.val (s2.2 : Int)), (J.Slot.val (s5 : Int))], [(p1, (J.Cel.lst ((s2.1 : List Int).map J.Slot.val)))]⟩ : J.Stt)) (J.jt_lt (J.je_var 3 rfl) J.je_int) (fun hp => ?_) (fun hp => ?_) (fun q6 => ?_)
    · have h := J.ifT hp hs5
      refine J.js_set (hN := hN) 3 (J.je_sub J.je_int (J.je_var 3 rfl)) ?_
      have h9 := Option.some.inj h
      subst h9
      exact J.js_loopEnd (Sq := fun (q6 : Unit) (s5 : Int) => (⟨[(J.Slot.v (.ref p0)), (J.Slot.v (.ref p1)), (J.Slot.val (s2.2 : Int)), (J.Slot.val (s5 : Int))], [(p1, (J.Cel.lst ((s2.1 : List Int).map J.Slot.val)))]⟩ : J.Stt)) (s' := (3 - x4)) 1 () (.keep (.keep (.keep (.keep .nil)))) rfl rfl
    · have h := J.ifF hp hs5
      have h9 := Option.some.inj h
      subst h9
      exact J.js_loopEnd (Sq := fun (q6 : Unit) (s5 : Int) => (⟨[(J.Slot.v (.ref p0)), (J.Slot.v (.ref p1)), (J.Slot.val (s2.2 : Int)), (J.Slot.val (s5 : Int))], [(p1, (J.Cel.lst ((s2.1 : List Int).map J.Slot.val)))]⟩ : J.Stt)) (s' := x4) 1 () (.keep (.keep (.keep (.keep .nil)))) rfl rfl
    obtain ⟨x7, hx7, h⟩ := J.bndE h
    refine J.js_set (hN := hN) 2 (J.je_let (J.je_mod (J.je_add (J.je_add (J.je_mulR (J.je_var 2 rfl) J.je_int (by decide)) (J.je_var 3 rfl)) J.je_int) (J.je_sub (J.je_powG 61 J.je_int J.je_int (by decide) (show J.powG 2 61 = some 2305843009213693952 by decide +kernel)) J.je_int) (by decide)) hx7) ?_
    obtain ⟨s8, hs8, h⟩ := J.bndE h
    refine J.js_ifE (π := Unit) (Sq := fun (q9 : Unit) => (⟨[(J.Slot.v (.ref p0)), (J.Slot.v (.ref p1)), (J.Slot.val (x7 : Int)), (J.Slot.val (s5 : Int))], [(p1, (J.Cel.lst ((s8 : List Int).map J.Slot.val)))]⟩ : J.Stt)) (J.jt_ge (J.je_var 3 rfl) (J.je_powG 18 J.je_int J.je_int (by decide) (show J.powG 10 18 = some 1000000000000000000 by decide +kernel))) (fun hp => ?_) (fun hp => ?_) (fun q9 => ?_)
    · have h := J.ifT hp hs8
      obtain ⟨x10, hx10, h⟩ := J.bndE h
      refine J.js_expr (J.je_appG (xs := s2.1) (t := ((s5 - 1000000000000000000) : Int)) 0 (J.je_var 1 rfl) rfl (J.je_sub (J.je_var 3 rfl) (J.je_powG 18 J.je_int J.je_int (by decide) (show J.powG 10 18 = some 1000000000000000000 by decide +kernel))) rfl hx10) ?_
      have h9 := Option.some.inj h
      subst h9
      exact J.js_loopEnd (Sq := fun (q9 : Unit) (s8 : (List Int)) => (⟨[(J.Slot.v (.ref p0)), (J.Slot.v (.ref p1)), (J.Slot.val (x7 : Int)), (J.Slot.val (s5 : Int))], [(p1, (J.Cel.lst ((s8 : List Int).map J.Slot.val)))]⟩ : J.Stt)) (s' := x10) 1 () (.keep (.keep (.keep (.keep .nil)))) rfl rfl
    · have h := J.ifF hp hs8
      have h9 := Option.some.inj h
      subst h9
      exact J.js_loopEnd (Sq := fun (q9 : Unit) (s8 : (List Int)) => (⟨[(J.Slot.v (.ref p0)), (J.Slot.v (.ref p1)), (J.Slot.val (x7 : Int)), (J.Slot.val (s5 : Int))], [(p1, (J.Cel.lst ((s8 : List Int).map J.Slot.val)))]⟩ : J.Stt)) (s' := s2.1) 1 () (.keep (.keep (.keep (.keep .nil)))) rfl rfl
    have h9 := Option.some.inj h
    subst h9
    exact J.js_nil fun T tv σ H g => ⟨(), J.le_fgt (sl := [(J.Slot.v (.ref p0)), (J.Slot.v (.ref p1)), (J.Slot.val ((s8, x7).2 : Int)), J.Slot.any]) (cs := [(p1, (J.Cel.lst (((s8, x7).1 : List Int).map J.Slot.val)))]) 1 (.keep (.keep (.keep (.drop .nil)))) rfl _ _ _ _ g⟩
  change J.JS _ _ (⟨[(J.Slot.v (.ref p0)), (J.Slot.v (.ref p1)), (J.Slot.val (s11.2 : Int)), J.Slot.any], [(p1, (J.Cel.lst ((s11.1 : List Int).map J.Slot.val)))]⟩ : J.Stt) _ _
  have h9 := Option.some.inj h
  subst h9
  exact J.js_ret (J.je_fold 0 0 (J.je_lst (J.ja_cons (J.je_var 1 rfl) (J.ja_cons (J.je_var 2 rfl) (J.ja_cons J.je_int J.ja_nil))) (Nat.le_of_ble_eq_true rfl)) rfl rfl) fun v H o => J.Out.take 0 o
structure G_law_draw where
  p0 : PySem.Addr
  p0_0 : PySem.Addr
  a1 : Int
  a0_0 : (List Int)
  a0_1 : Int
  a0_2 : Int
  out : (Int × (Int × (List Int)))
abbrev R_law_draw (r : (Int × (Int × (List Int)))) : J.Slot := (J.Slot.val (r.1 : Int))
abbrev C_law_draw (p0 : PySem.Addr) (p0_0 : PySem.Addr) (a1 : Int) (a0_0 : (List Int)) (a0_1 : Int) (a0_2 : Int) (r : (Int × (Int × (List Int)))) : List (PySem.Addr × J.Cel) := [(p0, (J.Cel.lst [(J.Slot.v (.ref p0_0)), (J.Slot.val (a0_1 : Int)), (J.Slot.val (r.2.1 : Int))])), (p0_0, (J.Cel.lst ((r.2.2 : List Int).map J.Slot.val)))]
abbrev A_law_draw (p0 : PySem.Addr) (p0_0 : PySem.Addr) (a1 : Int) (a0_0 : (List Int)) (a0_1 : Int) (a0_2 : Int) : List J.Slot := [(J.Slot.v (.ref p0)), (J.Slot.val (a1 : Int))]
abbrev D_law_draw (p0 : PySem.Addr) (p0_0 : PySem.Addr) (a1 : Int) (a0_0 : (List Int)) (a0_1 : Int) (a0_2 : Int) : List (PySem.Addr × J.Cel) := [(p0, (J.Cel.lst [(J.Slot.v (.ref p0_0)), (J.Slot.val (a0_1 : Int)), (J.Slot.val (a0_2 : Int))])), (p0_0, (J.Cel.lst ((a0_0 : List Int).map J.Slot.val)))]
def F_law_draw (K : PySem.W.Frag) : J.FS G_law_draw where
  pre := fun g => m_law_draw g.a1 g.a0_0 g.a0_1 g.a0_2 = some g.out
  preG := fun _ _ => True
  args := fun g => A_law_draw g.p0 g.p0_0 g.a1 g.a0_0 g.a0_1 g.a0_2
  cells := fun g => D_law_draw g.p0 g.p0_0 g.a1 g.a0_0 g.a0_1 g.a0_2
  res := fun g => R_law_draw g.out
  cells' := fun g => C_law_draw g.p0 g.p0_0 g.a1 g.a0_0 g.a0_1 g.a0_2 g.out
theorem ok_law_draw (W : Wd K mg) : FnOk P w K mg base CX0 1 W.a__law_draw W.d__law_draw ["bag", "many"] (F_law_draw K).sp := by
  refine J.fn_okD (F_law_draw K) W.F__law_draw sc__law_draw (fun g => rfl) (fun g => by intro s hs; simp only [F_law_draw, List.mem_cons, List.not_mem_nil, or_false] at hs; rcases hs with rfl | rfl <;> first | rfl | exact J.xsl_plain) (fun cdv A outer s H E hr B g h hG => ?_)
  have hN := (sc__law_draw).nd
  obtain ⟨p0, p0_0, a1, a0_0, a0_1, a0_2, r0⟩ := g
  change m_law_draw a1 a0_0 a0_1 a0_2 = some r0 at h
  unfold m_law_draw at h
  change J.JS _ B (⟨[(J.Slot.v (.ref p0)), (J.Slot.val (a1 : Int)), J.Slot.any, J.Slot.any, J.Slot.any], [(p0, (J.Cel.lst [(J.Slot.v (.ref p0_0)), (J.Slot.val (a0_1 : Int)), (J.Slot.val (a0_2 : Int))])), (p0_0, (J.Cel.lst ((a0_0 : List Int).map J.Slot.val)))]⟩ : J.Stt) _ (J.fend B (F_law_draw K) ⟨p0, p0_0, a1, a0_0, a0_1, a0_2, r0⟩)
  refine J.js_asg (J.je_add (J.je_ix (J.je_var 0 rfl) J.je_int (J.lv_cell 0 rfl (J.allp rfl)) rfl) J.je_int) (J.jg_het 0 2 (J.je_var 0 rfl) J.je_int rfl) ?_
  change J.JS _ _ (⟨[(J.Slot.v (.ref p0)), (J.Slot.val (a1 : Int)), J.Slot.any, J.Slot.any, J.Slot.any], [(p0, (J.Cel.lst [(J.Slot.v (.ref p0_0)), (J.Slot.val (a0_1 : Int)), (J.Slot.val ((a0_2 + 1) : Int))])), (p0_0, (J.Cel.lst ((a0_0 : List Int).map J.Slot.val)))]⟩ : J.Stt) _ _
  refine J.js_set (hN := hN) 2 (J.je_ix (J.je_var 0 rfl) J.je_int (J.lv_cell 0 rfl (J.allp rfl)) rfl) ?_
  obtain ⟨s6, hs6, h⟩ := J.bndE h
  refine J.js_whileE (π := Unit) (c := m_law_draw_t0) (f := m_law_draw_w1) (Sf := fun (q2 : Unit) (s1 : (List Int)) => (⟨[(J.Slot.v (.ref p0)), (J.Slot.val (a1 : Int)), (J.Slot.v (.ref p0_0)), J.Slot.any, J.Slot.any], [(p0, (J.Cel.lst [(J.Slot.v (.ref p0_0)), (J.Slot.val (a0_1 : Int)), (J.Slot.val ((a0_2 + 1) : Int))])), (p0_0, (J.Cel.lst ((s1 : List Int).map J.Slot.val)))]⟩ : J.Stt)) hs6 (fun _ _ _ _ g => ⟨(), J.le_fgt (sl := [(J.Slot.v (.ref p0)), (J.Slot.val (a1 : Int)), (J.Slot.v (.ref p0_0)), J.Slot.any, J.Slot.any]) (cs := [(p0, (J.Cel.lst [(J.Slot.v (.ref p0_0)), (J.Slot.val (a0_1 : Int)), (J.Slot.val ((a0_2 + 1) : Int))])), (p0_0, (J.Cel.lst ((a0_0 : List Int).map J.Slot.val)))]) 2 (.keep (.keep (.keep (.drop (.drop .nil))))) rfl _ _ _ _ g⟩) (fun q2 s1 p h => ?_) (fun q2 s1 sY _ h => ?_) (fun q2 => ?_)
  · unfold m_law_draw_t0 at h
    obtain ⟨x4, hx4, h⟩ := J.bndE h
    have h9 := Option.some.inj h
    subst h9
    exact (J.JW.t (J.jw_andM hx4 (J.jt_ne' (t := (s1 : (List Int))) (r := (([] : List Int) : (List Int))) hr (J.je_var 2 rfl) (J.je_lstv (xs := ([] : List Int)) J.ja_nil) (J.dv_cellL 1 rfl) J.dv_ownL) fun _ r h => by
      obtain ⟨x3, hx3, h⟩ := J.bndE h
      have h9 := Option.some.inj h
      subst h9
      exact (J.jw_and1 (J.jt_eq' (t := (x3 : Int)) (r := (0 : Int)) hr (J.je_ixv (xs := s1) (J.je_var 2 rfl) J.je_int (J.lv_cell' 1 rfl) hx3) J.je_int J.dv_val J.dv_val))))
  · unfold m_law_draw_w1 at h
    change J.JS _ _ (⟨[(J.Slot.v (.ref p0)), (J.Slot.val (a1 : Int)), (J.Slot.v (.ref p0_0)), J.Slot.any, J.Slot.any], [(p0, (J.Cel.lst [(J.Slot.v (.ref p0_0)), (J.Slot.val (a0_1 : Int)), (J.Slot.val ((a0_2 + 1) : Int))])), (p0_0, (J.Cel.lst ((s1 : List Int).map J.Slot.val)))]⟩ : J.Stt) _ _
    obtain ⟨x5, hx5, h⟩ := J.bndE h
    refine J.js_expr (J.je_popG (xs := s1) 1 (J.je_var 2 rfl) rfl J.je_int rfl hx5) ?_
    have h9 := Option.some.inj h
    subst h9
    exact J.js_nil fun T tv σ H g => ⟨(), J.le_fgt (sl := [(J.Slot.v (.ref p0)), (J.Slot.val (a1 : Int)), (J.Slot.v (.ref p0_0)), J.Slot.any, J.Slot.any]) (cs := [(p0, (J.Cel.lst [(J.Slot.v (.ref p0_0)), (J.Slot.val (a0_1 : Int)), (J.Slot.val ((a0_2 + 1) : Int))])), (p0_0, (J.Cel.lst (((x5.2) : List Int).map J.Slot.val)))]) 2 (.keep (.keep (.keep (.drop (.drop .nil))))) rfl _ _ _ _ g⟩
  change J.JS _ _ (⟨[(J.Slot.v (.ref p0)), (J.Slot.val (a1 : Int)), (J.Slot.v (.ref p0_0)), J.Slot.any, J.Slot.any], [(p0, (J.Cel.lst [(J.Slot.v (.ref p0_0)), (J.Slot.val (a0_1 : Int)), (J.Slot.val ((a0_2 + 1) : Int))])), (p0_0, (J.Cel.lst ((s6 : List Int).map J.Slot.val)))]⟩ : J.Stt) _ _
  refine J.js_if (J.jt_ne' (t := (s6 : (List Int))) (r := (([] : List Int) : (List Int))) hr (J.je_var 2 rfl) (J.je_lstv (xs := ([] : List Int)) J.ja_nil) (J.dv_cellL 1 rfl) J.dv_ownL) (fun hp => ?_) (fun hp => ?_)
  · replace h := J.ifT hp h
    obtain ⟨x7, hx7, h⟩ := J.bndE h
    obtain ⟨x8, hx8, h⟩ := J.bndE h
    refine J.js_set (hN := hN) 4 (J.je_modG (J.je_ixv (xs := s6) (J.je_var 2 rfl) J.je_int (J.lv_cell' 1 rfl) hx7) (J.je_var 1 rfl) hx8) ?_
    obtain ⟨x9, hx9, h⟩ := J.bndE h
    obtain ⟨x10, hx10, h⟩ := J.bndE h
    obtain ⟨x11, hx11, h⟩ := J.bndE h
    refine J.js_asg (J.je_divG (J.je_ixv (xs := s6) (J.je_var 2 rfl) J.je_int (J.lv_cell' 1 rfl) hx9) (J.je_var 1 rfl) hx10) (J.jg_subG (xs := s6) 1 (J.je_var 2 rfl) J.je_int rfl hx11) ?_
    have h9 := Option.some.inj h
    subst h9
    exact J.js_ret (J.je_var 4 rfl) fun v H o => J.Out.take 2 o
  · replace h := J.ifF hp h
    refine J.js_end ?_
    change J.JS _ _ (⟨[(J.Slot.v (.ref p0)), (J.Slot.val (a1 : Int)), (J.Slot.v (.ref p0_0)), J.Slot.any, J.Slot.any], [(p0, (J.Cel.lst [(J.Slot.v (.ref p0_0)), (J.Slot.val (a0_1 : Int)), (J.Slot.val ((a0_2 + 1) : Int))])), (p0_0, (J.Cel.lst ((s6 : List Int).map J.Slot.val)))]⟩ : J.Stt) _ _
    obtain ⟨x12, hx12, h⟩ := J.bndE h
    obtain ⟨x13, hx13, h⟩ := J.bndE h
    obtain ⟨x14, hx14, h⟩ := J.bndE h
    refine J.js_set (hN := hN) 3 (J.je_let (J.je_mod (J.je_add (J.je_mulG (J.je_add (J.je_ix (J.je_var 0 rfl) J.je_int (J.lv_cell 0 rfl (J.allp rfl)) rfl) J.je_int) (J.je_powG 3 (J.je_add (J.je_ix (J.je_var 0 rfl) J.je_int (J.lv_cell 0 rfl (J.allp rfl)) rfl) J.je_int) J.je_int (by decide) hx12) hx13) (J.je_mulL J.je_int (J.je_ix (J.je_var 0 rfl) J.je_int (J.lv_cell 0 rfl (J.allp rfl)) rfl) (by decide))) (J.je_sub (J.je_powG 61 J.je_int J.je_int (by decide) (show J.powG 2 61 = some 2305843009213693952 by decide +kernel)) J.je_int) (by decide)) hx14) ?_
    obtain ⟨x15, hx15, h⟩ := J.bndE h
    obtain ⟨x16, hx16, h⟩ := J.bndE h
    have h9 := Option.some.inj h
    subst h9
    exact J.js_ret (J.je_modG (J.je_div (J.je_mod (J.je_powG 3 (J.je_var 3 rfl) J.je_int (by decide) hx15) (J.je_add (J.je_powG 18 J.je_int J.je_int (by decide) (show J.powG 10 18 = some 1000000000000000000 by decide +kernel)) J.je_int) (by decide)) J.je_int (by decide)) (J.je_var 1 rfl) hx16) fun v H o => J.Out.take 2 o
structure G_law_pages where
  p0 : PySem.Addr
  p0_0 : PySem.Addr
  a0_0 : (List Int)
  a0_1 : Int
  a0_2 : Int
  out : ((List Int) × (Int × (List Int)))
abbrev R_law_pages (r : ((List Int) × (Int × (List Int)))) : J.Slot := (J.Slot.own (J.Cel.lst ((r.1 : List Int).map J.Slot.val)))
abbrev C_law_pages (p0 : PySem.Addr) (p0_0 : PySem.Addr) (a0_0 : (List Int)) (a0_1 : Int) (a0_2 : Int) (r : ((List Int) × (Int × (List Int)))) : List (PySem.Addr × J.Cel) := [(p0, (J.Cel.lst [(J.Slot.v (.ref p0_0)), (J.Slot.val (a0_1 : Int)), (J.Slot.val (r.2.1 : Int))])), (p0_0, (J.Cel.lst ((r.2.2 : List Int).map J.Slot.val)))]
abbrev A_law_pages (p0 : PySem.Addr) (p0_0 : PySem.Addr) (a0_0 : (List Int)) (a0_1 : Int) (a0_2 : Int) : List J.Slot := [(J.Slot.v (.ref p0))]
abbrev D_law_pages (p0 : PySem.Addr) (p0_0 : PySem.Addr) (a0_0 : (List Int)) (a0_1 : Int) (a0_2 : Int) : List (PySem.Addr × J.Cel) := [(p0, (J.Cel.lst [(J.Slot.v (.ref p0_0)), (J.Slot.val (a0_1 : Int)), (J.Slot.val (a0_2 : Int))])), (p0_0, (J.Cel.lst ((a0_0 : List Int).map J.Slot.val)))]
def F_law_pages (K : PySem.W.Frag) : J.FS G_law_pages where
  pre := fun g => m_law_pages g.a0_0 g.a0_1 g.a0_2 = some g.out
  preG := fun _ _ => True
  args := fun g => A_law_pages g.p0 g.p0_0 g.a0_0 g.a0_1 g.a0_2
  cells := fun g => D_law_pages g.p0 g.p0_0 g.a0_0 g.a0_1 g.a0_2
  res := fun g => R_law_pages g.out
  cells' := fun g => C_law_pages g.p0 g.p0_0 g.a0_0 g.a0_1 g.a0_2 g.out
theorem ok_law_pages (W : Wd K mg) : FnOk P w K mg base CX0 2 W.a__law_pages W.d__law_pages ["bag"] (F_law_pages K).sp := by
  refine J.fn_okD (F_law_pages K) W.F__law_pages sc__law_pages (fun g => rfl) (fun g => by intro s hs; simp only [F_law_pages, List.mem_cons, List.not_mem_nil, or_false] at hs; rcases hs with rfl <;> first | rfl | exact J.xsl_plain) (fun cdv A outer s H E hr B g h hG => ?_)
  have hN := (sc__law_pages).nd
  obtain ⟨p0, p0_0, a0_0, a0_1, a0_2, r0⟩ := g
  change m_law_pages a0_0 a0_1 a0_2 = some r0 at h
  unfold m_law_pages at h
  change J.JS _ B (⟨[(J.Slot.v (.ref p0)), J.Slot.any, J.Slot.any], [(p0, (J.Cel.lst [(J.Slot.v (.ref p0_0)), (J.Slot.val (a0_1 : Int)), (J.Slot.val (a0_2 : Int))])), (p0_0, (J.Cel.lst ((a0_0 : List Int).map J.Slot.val)))]⟩ : J.Stt) _ (J.fend B (F_law_pages K) ⟨p0, p0_0, a0_0, a0_1, a0_2, r0⟩)
  obtain ⟨x1, hx1, h⟩ := J.bndE h
  obtain ⟨x2, hx2, h⟩ := J.bndE h
  refine J.js_set (hN := hN) 1 (J.je_let (J.je_frL (J.je_lstv (xs := ([0, 1, 2, 9, 10, 100, (1000000000 - 1), 1000000000, (11 + x1.1)] : List Int)) (J.ja_cons J.je_int (J.ja_cons J.je_int (J.ja_cons J.je_int (J.ja_cons J.je_int (J.ja_cons J.je_int (J.ja_cons J.je_int (J.ja_cons (J.je_sub (J.je_powG 9 J.je_int J.je_int (by decide) (show J.powG 10 9 = some 1000000000 by decide +kernel)) J.je_int) (J.ja_cons (J.je_powG 9 J.je_int J.je_int (by decide) (show J.powG 10 9 = some 1000000000 by decide +kernel)) (J.ja_cons (J.je_add J.je_int (J.je_call (f := F_law_draw K) (ok_law_draw W) hr (by decide) W.g__law_draw W.F__law_draw.kp W.b__law_draw (J.ja_cons (J.je_var 0 rfl) (J.ja_cons J.je_int J.ja_nil)) (g := (⟨p0, p0_0, 80, a0_0, a0_1, a0_2, x1⟩ : G_law_draw)) hx1 rfl (.cons 0 rfl (by nofun) (.cons 1 rfl (by nofun) .nil)) (.cons 0 rfl (.cons 1 rfl .nil)) (hG := fun G e => trivial))) J.ja_nil))))))))))) hx2) ?_
  change J.JS _ _ (⟨[(J.Slot.v (.ref p0)), (J.Slot.val (x2 : (List Int))), J.Slot.any], [(p0, (J.Cel.lst [(J.Slot.v (.ref p0_0)), (J.Slot.val (a0_1 : Int)), (J.Slot.val (x1.2.1 : Int))])), (p0_0, (J.Cel.lst ((x1.2.2 : List Int).map J.Slot.val)))]⟩ : J.Stt) _ _
  obtain ⟨x3, hx3, h⟩ := J.bndE h
  refine J.js_set (hN := hN) 2 (J.je_call (f := F_law_draw K) (ok_law_draw W) hr (by decide) W.g__law_draw W.F__law_draw.kp W.b__law_draw (J.ja_cons (J.je_var 0 rfl) (J.ja_cons J.je_int J.ja_nil)) (g := (⟨p0, p0_0, 9, x1.2.2, a0_1, x1.2.1, x3⟩ : G_law_draw)) hx3 rfl (.cons 0 rfl (by nofun) (.cons 1 rfl (by nofun) .nil)) (.cons 0 rfl (.cons 1 rfl .nil)) (hG := fun G e => trivial)) ?_
  change J.JS _ _ (⟨[(J.Slot.v (.ref p0)), (J.Slot.val (x2 : (List Int))), (J.Slot.val (x3.1 : Int))], [(p0, (J.Cel.lst [(J.Slot.v (.ref p0_0)), (J.Slot.val (a0_1 : Int)), (J.Slot.val (x3.2.1 : Int))])), (p0_0, (J.Cel.lst ((x3.2.2 : List Int).map J.Slot.val)))]⟩ : J.Stt) _ _
  obtain ⟨x4, hx4, h⟩ := J.bndE h
  have h9 := Option.some.inj h
  subst h9
  exact J.js_ret (J.je_catG (xs := (J.slc x2 (some x3.1) none)) (ys := (J.slc x2 none (some x3.1))) (J.je_slcv (xs := x2) (J.je_var 1 rfl) (J.jo_some (J.je_var 2 rfl)) J.jo_none J.lv_val) (J.je_slcv (xs := x2) (J.je_var 1 rfl) J.jo_none (J.jo_some (J.je_var 2 rfl)) J.lv_val) J.lh_own J.lh_own hx4) fun v H o => J.Out.take 2 o
structure G_law_line where
  p0 : PySem.Addr
  p0_0 : PySem.Addr
  a1 : Int
  a0_0 : (List Int)
  a0_1 : Int
  a0_2 : Int
  out : ((List Int) × (Int × (List Int)))
abbrev R_law_line (r : ((List Int) × (Int × (List Int)))) : J.Slot := (J.Slot.own (J.Cel.lst ((r.1 : List Int).map J.Slot.val)))
abbrev C_law_line (p0 : PySem.Addr) (p0_0 : PySem.Addr) (a1 : Int) (a0_0 : (List Int)) (a0_1 : Int) (a0_2 : Int) (r : ((List Int) × (Int × (List Int)))) : List (PySem.Addr × J.Cel) := [(p0, (J.Cel.lst [(J.Slot.v (.ref p0_0)), (J.Slot.val (a0_1 : Int)), (J.Slot.val (r.2.1 : Int))])), (p0_0, (J.Cel.lst ((r.2.2 : List Int).map J.Slot.val)))]
abbrev A_law_line (p0 : PySem.Addr) (p0_0 : PySem.Addr) (a1 : Int) (a0_0 : (List Int)) (a0_1 : Int) (a0_2 : Int) : List J.Slot := [(J.Slot.v (.ref p0)), (J.Slot.val (a1 : Int))]
abbrev D_law_line (p0 : PySem.Addr) (p0_0 : PySem.Addr) (a1 : Int) (a0_0 : (List Int)) (a0_1 : Int) (a0_2 : Int) : List (PySem.Addr × J.Cel) := [(p0, (J.Cel.lst [(J.Slot.v (.ref p0_0)), (J.Slot.val (a0_1 : Int)), (J.Slot.val (a0_2 : Int))])), (p0_0, (J.Cel.lst ((a0_0 : List Int).map J.Slot.val)))]
def F_law_line (K : PySem.W.Frag) : J.FS G_law_line where
  pre := fun g => m_law_line g.a1 g.a0_0 g.a0_1 g.a0_2 = some g.out
  preG := fun _ _ => True
  args := fun g => A_law_line g.p0 g.p0_0 g.a1 g.a0_0 g.a0_1 g.a0_2
  cells := fun g => D_law_line g.p0 g.p0_0 g.a1 g.a0_0 g.a0_1 g.a0_2
  res := fun g => R_law_line g.out
  cells' := fun g => C_law_line g.p0 g.p0_0 g.a1 g.a0_0 g.a0_1 g.a0_2 g.out
theorem ok_law_line (W : Wd K mg) : FnOk P w K mg base CX0 3 W.a__law_line W.d__law_line ["bag", "most"] (F_law_line K).sp := by
  refine J.fn_okD (F_law_line K) W.F__law_line sc__law_line (fun g => rfl) (fun g => by intro s hs; simp only [F_law_line, List.mem_cons, List.not_mem_nil, or_false] at hs; rcases hs with rfl | rfl <;> first | rfl | exact J.xsl_plain) (fun cdv A outer s H E hr B g h hG => ?_)
  have hN := (sc__law_line).nd
  obtain ⟨p0, p0_0, a1, a0_0, a0_1, a0_2, r0⟩ := g
  change m_law_line a1 a0_0 a0_1 a0_2 = some r0 at h
  unfold m_law_line at h
  change J.JS _ B (⟨[(J.Slot.v (.ref p0)), (J.Slot.val (a1 : Int)), J.Slot.any, J.Slot.any, J.Slot.any, J.Slot.any, J.Slot.any, J.Slot.any, J.Slot.any, J.Slot.any], [(p0, (J.Cel.lst [(J.Slot.v (.ref p0_0)), (J.Slot.val (a0_1 : Int)), (J.Slot.val (a0_2 : Int))])), (p0_0, (J.Cel.lst ((a0_0 : List Int).map J.Slot.val)))]⟩ : J.Stt) _ (J.fend B (F_law_line K) ⟨p0, p0_0, a1, a0_0, a0_1, a0_2, r0⟩)
  obtain ⟨x1, hx1, h⟩ := J.bndE h
  refine J.js_set (hN := hN) 2 (J.je_frL (J.je_call (f := F_law_pages K) (ok_law_pages W) hr (by decide) W.g__law_pages W.F__law_pages.kp W.b__law_pages (J.ja_cons (J.je_var 0 rfl) J.ja_nil) (g := (⟨p0, p0_0, a0_0, a0_1, a0_2, x1⟩ : G_law_pages)) hx1 rfl (.cons 0 rfl (by nofun) (.cons 1 rfl (by nofun) .nil)) (.cons 0 rfl (.cons 1 rfl .nil)) (hG := fun G e => trivial))) ?_
  change J.JS _ _ (⟨[(J.Slot.v (.ref p0)), (J.Slot.val (a1 : Int)), (J.Slot.val (x1.1 : (List Int))), J.Slot.any, J.Slot.any, J.Slot.any, J.Slot.any, J.Slot.any, J.Slot.any, J.Slot.any], [(p0, (J.Cel.lst [(J.Slot.v (.ref p0_0)), (J.Slot.val (a0_1 : Int)), (J.Slot.val (x1.2.1 : Int))])), (p0_0, (J.Cel.lst ((x1.2.2 : List Int).map J.Slot.val)))]⟩ : J.Stt) _ _
  obtain ⟨x2, hx2, h⟩ := J.bndE h
  refine J.js_set (hN := hN) 3 (J.je_add J.je_int (J.je_call (f := F_law_draw K) (ok_law_draw W) hr (by decide) W.g__law_draw W.F__law_draw.kp W.b__law_draw (J.ja_cons (J.je_var 0 rfl) (J.ja_cons J.je_int J.ja_nil)) (g := (⟨p0, p0_0, 9, x1.2.2, a0_1, x1.2.1, x2⟩ : G_law_draw)) hx2 rfl (.cons 0 rfl (by nofun) (.cons 1 rfl (by nofun) .nil)) (.cons 0 rfl (.cons 1 rfl .nil)) (hG := fun G e => trivial))) ?_
  change J.JS _ _ (⟨[(J.Slot.v (.ref p0)), (J.Slot.val (a1 : Int)), (J.Slot.val (x1.1 : (List Int))), (J.Slot.val ((1 + x2.1) : Int)), J.Slot.any, J.Slot.any, J.Slot.any, J.Slot.any, J.Slot.any, J.Slot.any], [(p0, (J.Cel.lst [(J.Slot.v (.ref p0_0)), (J.Slot.val (a0_1 : Int)), (J.Slot.val (x2.2.1 : Int))])), (p0_0, (J.Cel.lst ((x2.2.2 : List Int).map J.Slot.val)))]⟩ : J.Stt) _ _
  obtain ⟨x3, hx3, h⟩ := J.bndE h
  obtain ⟨s4, hs4, h⟩ := J.bndE h
  refine J.js_ifE (π := Unit) (Sq := fun (q5 : Unit) => (⟨[(J.Slot.v (.ref p0)), (J.Slot.val (a1 : Int)), (J.Slot.val (s4.2.2.1 : (List Int))), (J.Slot.val (s4.2.2.2 : Int)), J.Slot.any, J.Slot.any, J.Slot.any, J.Slot.any, J.Slot.any, J.Slot.any], [(p0, (J.Cel.lst [(J.Slot.v (.ref p0_0)), (J.Slot.val (a0_1 : Int)), (J.Slot.val (s4.1 : Int))])), (p0_0, (J.Cel.lst ((s4.2.1 : List Int).map J.Slot.val)))]⟩ : J.Stt)) (J.jt_eq' (t := (x3.1 : Int)) (r := (3 : Int)) hr (J.je_call (f := F_law_draw K) (ok_law_draw W) hr (by decide) W.g__law_draw W.F__law_draw.kp W.b__law_draw (J.ja_cons (J.je_var 0 rfl) (J.ja_cons J.je_int J.ja_nil)) (g := (⟨p0, p0_0, 4, x2.2.2, a0_1, x2.2.1, x3⟩ : G_law_draw)) hx3 rfl (.cons 0 rfl (by nofun) (.cons 1 rfl (by nofun) .nil)) (.cons 0 rfl (.cons 1 rfl .nil)) (hG := fun G e => trivial)) J.je_int J.dv_val J.dv_val) (fun hp => ?_) (fun hp => ?_) (fun q5 => ?_)
  · have h := J.ifT hp hs4
    change J.JS _ _ (⟨[(J.Slot.v (.ref p0)), (J.Slot.val (a1 : Int)), (J.Slot.val (x1.1 : (List Int))), (J.Slot.val ((1 + x2.1) : Int)), J.Slot.any, J.Slot.any, J.Slot.any, J.Slot.any, J.Slot.any, J.Slot.any], [(p0, (J.Cel.lst [(J.Slot.v (.ref p0_0)), (J.Slot.val (a0_1 : Int)), (J.Slot.val (x3.2.1 : Int))])), (p0_0, (J.Cel.lst ((x3.2.2 : List Int).map J.Slot.val)))]⟩ : J.Stt) _ _
    obtain ⟨x6, hx6, h⟩ := J.bndE h
    refine J.js_set (hN := hN) 7 (J.je_call (f := F_law_draw K) (ok_law_draw W) hr (by decide) W.g__law_draw W.F__law_draw.kp W.b__law_draw (J.ja_cons (J.je_var 0 rfl) (J.ja_cons (J.je_powG 8 J.je_int J.je_int (by decide) (show J.powG 10 8 = some 100000000 by decide +kernel)) J.ja_nil)) (g := (⟨p0, p0_0, 100000000, x3.2.2, a0_1, x3.2.1, x6⟩ : G_law_draw)) hx6 rfl (.cons 0 rfl (by nofun) (.cons 1 rfl (by nofun) .nil)) (.cons 0 rfl (.cons 1 rfl .nil)) (hG := fun G e => trivial)) ?_
    change J.JS _ _ (⟨[(J.Slot.v (.ref p0)), (J.Slot.val (a1 : Int)), (J.Slot.val (x1.1 : (List Int))), (J.Slot.val ((1 + x2.1) : Int)), J.Slot.any, J.Slot.any, J.Slot.any, (J.Slot.val (x6.1 : Int)), J.Slot.any, J.Slot.any], [(p0, (J.Cel.lst [(J.Slot.v (.ref p0_0)), (J.Slot.val (a0_1 : Int)), (J.Slot.val (x6.2.1 : Int))])), (p0_0, (J.Cel.lst ((x6.2.2 : List Int).map J.Slot.val)))]⟩ : J.Stt) _ _
    obtain ⟨x7, hx7, h⟩ := J.bndE h
    refine J.js_set (hN := hN) 8 (J.je_add J.je_int (J.je_call (f := F_law_draw K) (ok_law_draw W) hr (by decide) W.g__law_draw W.F__law_draw.kp W.b__law_draw (J.ja_cons (J.je_var 0 rfl) (J.ja_cons (J.je_powG 6 J.je_int J.je_int (by decide) (show J.powG 10 6 = some 1000000 by decide +kernel)) J.ja_nil)) (g := (⟨p0, p0_0, 1000000, x6.2.2, a0_1, x6.2.1, x7⟩ : G_law_draw)) hx7 rfl (.cons 0 rfl (by nofun) (.cons 1 rfl (by nofun) .nil)) (.cons 0 rfl (.cons 1 rfl .nil)) (hG := fun G e => trivial))) ?_
    change J.JS _ _ (⟨[(J.Slot.v (.ref p0)), (J.Slot.val (a1 : Int)), (J.Slot.val (x1.1 : (List Int))), (J.Slot.val ((1 + x2.1) : Int)), J.Slot.any, J.Slot.any, J.Slot.any, (J.Slot.val (x6.1 : Int)), (J.Slot.val ((1 + x7.1) : Int)), J.Slot.any], [(p0, (J.Cel.lst [(J.Slot.v (.ref p0_0)), (J.Slot.val (a0_1 : Int)), (J.Slot.val (x7.2.1 : Int))])), (p0_0, (J.Cel.lst ((x7.2.2 : List Int).map J.Slot.val)))]⟩ : J.Stt) _ _
    obtain ⟨x8, hx8, h⟩ := J.bndE h
    obtain ⟨x9, hx9, h⟩ := J.bndE h
    obtain ⟨x14, hx14, h⟩ := J.bndE h
    refine J.js_setLc 2 (z := (J.Slot.val (x14.1 : (List Int)))) (f := m_law_line_c0 x6 x7) (el := J.Slot.val) (Sf := fun (s10 : Unit) => (⟨[(J.Slot.v (.ref p0)), (J.Slot.val (a1 : Int)), (J.Slot.val (x1.1 : (List Int))), (J.Slot.val ((1 + x2.1) : Int)), J.Slot.any, J.Slot.any, J.Slot.any, (J.Slot.val (x6.1 : Int)), (J.Slot.val ((1 + x7.1) : Int)), J.Slot.any], [(p0, (J.Cel.lst [(J.Slot.v (.ref p0_0)), (J.Slot.val (a0_1 : Int)), (J.Slot.val (x8.2.1 : Int))])), (p0_0, (J.Cel.lst ((x8.2.2 : List Int).map J.Slot.val)))]⟩ : J.Stt)) (Sb := fun (s10 : Unit) (x12 : Int) => (⟨[(J.Slot.v (.ref p0)), (J.Slot.val (a1 : Int)), (J.Slot.val (x1.1 : (List Int))), (J.Slot.val ((1 + x2.1) : Int)), J.Slot.any, J.Slot.any, (J.Slot.val (x12 : Int)), (J.Slot.val (x6.1 : Int)), (J.Slot.val ((1 + x7.1) : Int)), J.Slot.any], [(p0, (J.Cel.lst [(J.Slot.v (.ref p0_0)), (J.Slot.val (a0_1 : Int)), (J.Slot.val (x8.2.1 : Int))])), (p0_0, (J.Cel.lst ((x8.2.2 : List Int).map J.Slot.val)))]⟩ : J.Stt)) (s0 := ()) (own := [(("k" : PySem.Str), 6)]) (ws := [6]) (J.lcM_of hx14).2 (J.lcM_of hx14).1 hN (L2.blkOk_by (N := ["bag", "most", "some", "many", "kind", "found", "k", "first", "step", "at"]) (sc := defScope s__law_line) (by decide +kernel)) (J.ji_rngG W.l_range (J.je_add J.je_int (J.je_call (f := F_law_draw K) (ok_law_draw W) hr (by decide) W.g__law_draw W.F__law_draw.kp W.b__law_draw (J.ja_cons (J.je_var 0 rfl) (J.ja_cons J.je_int J.ja_nil)) (g := (⟨p0, p0_0, 71, x7.2.2, a0_1, x7.2.1, x8⟩ : G_law_draw)) hx8 rfl (.cons 0 rfl (by nofun) (.cons 1 rfl (by nofun) .nil)) (.cons 0 rfl (.cons 1 rfl .nil)) (hG := fun G e => trivial))) hx9) (J.le_fgt 2 (.keep (.keep (.keep (.keep (.drop (.drop (.drop (.keep (.keep (.drop .nil)))))))))) rfl) (fun _ => trivial) (fun _ => J.any_at rfl) (by decide) (fun s10 x12 => fun s1 H1 C1 cl1 fp1 =>  J.inJG hN fun hN => (J.jg_name 6 (hN := hN))) (fun s10 x12 o sZ _ h => by
      unfold m_law_line_c0 at h
      obtain ⟨x13, hx13, h⟩ := J.bndE h
      obtain ⟨h8, h9⟩ := Prod.mk.inj (Option.some.inj h)
      subst h8
      subst h9
      exact ⟨true, _, (fun s1 H1 C1 cl1 fp1 =>  J.jts_nil), fun _ => ⟨_, _, rfl, (fun s1 H1 C1 cl1 fp1 =>  J.inJE hr hN fun hr hN => (J.je_add (J.je_var 7 rfl) (J.je_mulG (J.je_var 8 rfl) (J.je_var 6 rfl) hx13))), (J.le_fgt 2 (.keep (.keep (.keep (.keep (.drop (.drop (.drop (.keep (.keep (.drop .nil)))))))))) rfl)⟩, nofun⟩) (fun h => h.frz (.own (J.fz_val _)) fun G d => .val d) ?_
    change J.JS _ _ (⟨[(J.Slot.v (.ref p0)), (J.Slot.val (a1 : Int)), (J.Slot.val (x14.1 : (List Int))), (J.Slot.val ((1 + x2.1) : Int)), J.Slot.any, J.Slot.any, J.Slot.any, (J.Slot.val (x6.1 : Int)), (J.Slot.val ((1 + x7.1) : Int)), J.Slot.any], [(p0, (J.Cel.lst [(J.Slot.v (.ref p0_0)), (J.Slot.val (a0_1 : Int)), (J.Slot.val (x8.2.1 : Int))])), (p0_0, (J.Cel.lst ((x8.2.2 : List Int).map J.Slot.val)))]⟩ : J.Stt) _ _
    refine J.js_set (hN := hN) 3 (J.je_len (n := "len") (xs := x14.1) W.l_len (J.je_var 2 rfl) J.lv_val) ?_
    have h9 := Option.some.inj h
    subst h9
    exact J.js_loopEnd (Sq := fun (q5 : Unit) (s4 : (Int × ((List Int) × ((List Int) × Int)))) => (⟨[(J.Slot.v (.ref p0)), (J.Slot.val (a1 : Int)), (J.Slot.val (s4.2.2.1 : (List Int))), (J.Slot.val (s4.2.2.2 : Int)), J.Slot.any, J.Slot.any, J.Slot.any, J.Slot.any, J.Slot.any, J.Slot.any], [(p0, (J.Cel.lst [(J.Slot.v (.ref p0_0)), (J.Slot.val (a0_1 : Int)), (J.Slot.val (s4.1 : Int))])), (p0_0, (J.Cel.lst ((s4.2.1 : List Int).map J.Slot.val)))]⟩ : J.Stt)) (s' := (x8.2.1, (x8.2.2, (x14.1, ((x14.1).length : Int))))) 2 () (.keep (.keep (.keep (.keep (.drop (.drop (.drop (.drop (.drop (.drop .nil)))))))))) rfl rfl
  · have h := J.ifF hp hs4
    change J.JS _ _ (⟨[(J.Slot.v (.ref p0)), (J.Slot.val (a1 : Int)), (J.Slot.val (x1.1 : (List Int))), (J.Slot.val ((1 + x2.1) : Int)), J.Slot.any, J.Slot.any, J.Slot.any, J.Slot.any, J.Slot.any, J.Slot.any], [(p0, (J.Cel.lst [(J.Slot.v (.ref p0_0)), (J.Slot.val (a0_1 : Int)), (J.Slot.val (x3.2.1 : Int))])), (p0_0, (J.Cel.lst ((x3.2.2 : List Int).map J.Slot.val)))]⟩ : J.Stt) _ _
    have h9 := Option.some.inj h
    subst h9
    exact J.js_loopEnd (Sq := fun (q5 : Unit) (s4 : (Int × ((List Int) × ((List Int) × Int)))) => (⟨[(J.Slot.v (.ref p0)), (J.Slot.val (a1 : Int)), (J.Slot.val (s4.2.2.1 : (List Int))), (J.Slot.val (s4.2.2.2 : Int)), J.Slot.any, J.Slot.any, J.Slot.any, J.Slot.any, J.Slot.any, J.Slot.any], [(p0, (J.Cel.lst [(J.Slot.v (.ref p0_0)), (J.Slot.val (a0_1 : Int)), (J.Slot.val (s4.1 : Int))])), (p0_0, (J.Cel.lst ((s4.2.1 : List Int).map J.Slot.val)))]⟩ : J.Stt)) (s' := (x3.2.1, (x3.2.2, (x1.1, (1 + x2.1))))) 2 () (.keep (.keep (.keep (.keep (.drop (.drop (.drop (.drop (.drop (.drop .nil)))))))))) rfl rfl
  obtain ⟨x15, hx15, h⟩ := J.bndE h
  refine J.js_set (hN := hN) 4 (J.je_call (f := F_law_draw K) (ok_law_draw W) hr (by decide) W.g__law_draw W.F__law_draw.kp W.b__law_draw (J.ja_cons (J.je_var 0 rfl) (J.ja_cons J.je_int J.ja_nil)) (g := (⟨p0, p0_0, 4, s4.2.1, a0_1, s4.1, x15⟩ : G_law_draw)) hx15 rfl (.cons 0 rfl (by nofun) (.cons 1 rfl (by nofun) .nil)) (.cons 0 rfl (.cons 1 rfl .nil)) (hG := fun G e => trivial)) ?_
  change J.JS _ _ (⟨[(J.Slot.v (.ref p0)), (J.Slot.val (a1 : Int)), (J.Slot.val (s4.2.2.1 : (List Int))), (J.Slot.val (s4.2.2.2 : Int)), (J.Slot.val (x15.1 : Int)), J.Slot.any, J.Slot.any, J.Slot.any, J.Slot.any, J.Slot.any], [(p0, (J.Cel.lst [(J.Slot.v (.ref p0_0)), (J.Slot.val (a0_1 : Int)), (J.Slot.val (x15.2.1 : Int))])), (p0_0, (J.Cel.lst ((x15.2.2 : List Int).map J.Slot.val)))]⟩ : J.Stt) _ _
  refine J.js_new (hN := hN) 5 (J.je_lstv (xs := ([] : List Int)) J.ja_nil) fun p16 => ?_
  obtain ⟨x17, hx17, h⟩ := J.bndE h
  obtain ⟨x18, hx18, h⟩ := J.bndE h
  obtain ⟨s33, hs33, h⟩ := J.bndE h
  refine J.js_forE (π := Unit) (f := m_law_line_b1 a0_1 s4 x15) (Sf := fun (q20 : Unit) (s19 : (Int × ((List Int) × (List Int)))) => (⟨[(J.Slot.v (.ref p0)), (J.Slot.val (a1 : Int)), (J.Slot.val (s4.2.2.1 : (List Int))), (J.Slot.val (s4.2.2.2 : Int)), (J.Slot.val (x15.1 : Int)), (J.Slot.v (.ref p16)), J.Slot.any, J.Slot.any, J.Slot.any, J.Slot.any], [(p0, (J.Cel.lst [(J.Slot.v (.ref p0_0)), (J.Slot.val (a0_1 : Int)), (J.Slot.val (s19.1 : Int))])), (p0_0, (J.Cel.lst ((s19.2.1 : List Int).map J.Slot.val))), (p16, (J.Cel.lst ((s19.2.2 : List Int).map J.Slot.val)))]⟩ : J.Stt)) (Sb := fun (q20 : Unit) (s19 : (Int × ((List Int) × (List Int)))) (x21 : Int) => (⟨[(J.Slot.v (.ref p0)), (J.Slot.val (a1 : Int)), (J.Slot.val (s4.2.2.1 : (List Int))), (J.Slot.val (s4.2.2.2 : Int)), (J.Slot.val (x15.1 : Int)), (J.Slot.v (.ref p16)), (J.Slot.val (x21 : Int)), J.Slot.any, J.Slot.any, J.Slot.any], [(p0, (J.Cel.lst [(J.Slot.v (.ref p0_0)), (J.Slot.val (a0_1 : Int)), (J.Slot.val (s19.1 : Int))])), (p0_0, (J.Cel.lst ((s19.2.1 : List Int).map J.Slot.val))), (p16, (J.Cel.lst ((s19.2.2 : List Int).map J.Slot.val)))]⟩ : J.Stt)) hs33 (J.ji_rngG W.l_range (J.je_call (f := F_law_draw K) (ok_law_draw W) hr (by decide) W.g__law_draw W.F__law_draw.kp W.b__law_draw (J.ja_cons (J.je_var 0 rfl) (J.ja_cons (J.je_add (J.je_var 1 rfl) J.je_int) J.ja_nil)) (g := (⟨p0, p0_0, (a1 + 1), x15.2.2, a0_1, x15.2.1, x17⟩ : G_law_draw)) hx17 rfl (.cons 0 rfl (by nofun) (.cons 1 rfl (by nofun) .nil)) (.cons 0 rfl (.cons 1 rfl .nil)) (hG := fun G e => trivial)) hx18) (fun _ _ _ _ g => ⟨(), J.le_fgt (sl := [(J.Slot.v (.ref p0)), (J.Slot.val (a1 : Int)), (J.Slot.val (s4.2.2.1 : (List Int))), (J.Slot.val (s4.2.2.2 : Int)), (J.Slot.val (x15.1 : Int)), (J.Slot.v (.ref p16)), J.Slot.any, J.Slot.any, J.Slot.any, J.Slot.any]) (cs := [(p0, (J.Cel.lst [(J.Slot.v (.ref p0_0)), (J.Slot.val (a0_1 : Int)), (J.Slot.val ((x17.2.1, (x17.2.2, ([] : List Int))).1 : Int))])), (p0_0, (J.Cel.lst (((x17.2.1, (x17.2.2, ([] : List Int))).2.1 : List Int).map J.Slot.val))), (p16, (J.Cel.lst (((x17.2.1, (x17.2.2, ([] : List Int))).2.2 : List Int).map J.Slot.val)))]) 3 (.keep (.keep (.keep (.keep (.keep (.keep (.drop (.drop (.drop (.drop .nil)))))))))) rfl _ _ _ _ g⟩) (fun _ _ => trivial) (fun q20 s19 x21 => (J.jg_name 6 (hN := hN))) (fun q20 s19 x21 sY _ h => ?_) (fun q20 => ?_)
  · unfold m_law_line_b1 at h
    change J.JS _ _ (⟨[(J.Slot.v (.ref p0)), (J.Slot.val (a1 : Int)), (J.Slot.val (s4.2.2.1 : (List Int))), (J.Slot.val (s4.2.2.2 : Int)), (J.Slot.val (x15.1 : Int)), (J.Slot.v (.ref p16)), (J.Slot.val (x21 : Int)), J.Slot.any, J.Slot.any, J.Slot.any], [(p0, (J.Cel.lst [(J.Slot.v (.ref p0_0)), (J.Slot.val (a0_1 : Int)), (J.Slot.val (s19.1 : Int))])), (p0_0, (J.Cel.lst ((s19.2.1 : List Int).map J.Slot.val))), (p16, (J.Cel.lst ((s19.2.2 : List Int).map J.Slot.val)))]⟩ : J.Stt) _ _
    obtain ⟨x22, hx22, h⟩ := J.bndE h
    obtain ⟨x23, hx23, h⟩ := J.bndE h
    obtain ⟨x24, hx24, h⟩ := J.bndE h
    obtain ⟨x25, hx25, h⟩ := J.bndE h
    obtain ⟨x26, hx26, h⟩ := J.bndE h
    refine J.js_set (hN := hN) 9 (J.je_ixv (xs := ([x22.1, x23.1, x24, x25] : List Int)) (J.je_lstv (xs := ([x22.1, x23.1, x24, x25] : List Int)) (J.ja_cons (J.je_call (f := F_law_draw K) (ok_law_draw W) hr (by decide) W.g__law_draw W.F__law_draw.kp W.b__law_draw (J.ja_cons (J.je_var 0 rfl) (J.ja_cons (J.je_var 3 rfl) J.ja_nil)) (g := (⟨p0, p0_0, s4.2.2.2, s19.2.1, a0_1, s19.1, x22⟩ : G_law_draw)) hx22 rfl (.cons 0 rfl (by nofun) (.cons 1 rfl (by nofun) .nil)) (.cons 0 rfl (.cons 1 rfl .nil)) (hG := fun G e => trivial)) (J.ja_cons (J.je_call (f := F_law_draw K) (ok_law_draw W) hr (by decide) W.g__law_draw W.F__law_draw.kp W.b__law_draw (J.ja_cons (J.je_var 0 rfl) (J.ja_cons (J.je_var 3 rfl) J.ja_nil)) (g := (⟨p0, p0_0, s4.2.2.2, x22.2.2, a0_1, x22.2.1, x23⟩ : G_law_draw)) hx23 rfl (.cons 0 rfl (by nofun) (.cons 1 rfl (by nofun) .nil)) (.cons 0 rfl (.cons 1 rfl .nil)) (hG := fun G e => trivial)) (J.ja_cons (J.je_modG (J.je_var 6 rfl) (J.je_var 3 rfl) hx24) (J.ja_cons (J.je_modG (J.je_div (J.je_var 6 rfl) J.je_int (by decide)) (J.je_var 3 rfl) hx25) J.ja_nil))))) (J.je_var 4 rfl) J.lv_own' hx26) ?_
    change J.JS _ _ (⟨[(J.Slot.v (.ref p0)), (J.Slot.val (a1 : Int)), (J.Slot.val (s4.2.2.1 : (List Int))), (J.Slot.val (s4.2.2.2 : Int)), (J.Slot.val (x15.1 : Int)), (J.Slot.v (.ref p16)), (J.Slot.val (x21 : Int)), J.Slot.any, J.Slot.any, (J.Slot.val (x26 : Int))], [(p0, (J.Cel.lst [(J.Slot.v (.ref p0_0)), (J.Slot.val (a0_1 : Int)), (J.Slot.val (x23.2.1 : Int))])), (p0_0, (J.Cel.lst ((x23.2.2 : List Int).map J.Slot.val))), (p16, (J.Cel.lst ((s19.2.2 : List Int).map J.Slot.val)))]⟩ : J.Stt) _ _
    obtain ⟨x27, hx27, h⟩ := J.bndE h
    obtain ⟨s28, hs28, h⟩ := J.bndE h
    refine J.js_ifE (π := Unit) (Sq := fun (q29 : Unit) => (⟨[(J.Slot.v (.ref p0)), (J.Slot.val (a1 : Int)), (J.Slot.val (s4.2.2.1 : (List Int))), (J.Slot.val (s4.2.2.2 : Int)), (J.Slot.val (x15.1 : Int)), (J.Slot.v (.ref p16)), (J.Slot.val (x21 : Int)), J.Slot.any, J.Slot.any, (J.Slot.val (s28.2.2 : Int))], [(p0, (J.Cel.lst [(J.Slot.v (.ref p0_0)), (J.Slot.val (a0_1 : Int)), (J.Slot.val (s28.1 : Int))])), (p0_0, (J.Cel.lst ((s28.2.1 : List Int).map J.Slot.val))), (p16, (J.Cel.lst ((s19.2.2 : List Int).map J.Slot.val)))]⟩ : J.Stt)) (J.jt_eq' (t := (x27.1 : Int)) (r := (0 : Int)) hr (J.je_call (f := F_law_draw K) (ok_law_draw W) hr (by decide) W.g__law_draw W.F__law_draw.kp W.b__law_draw (J.ja_cons (J.je_var 0 rfl) (J.ja_cons J.je_int J.ja_nil)) (g := (⟨p0, p0_0, 8, x23.2.2, a0_1, x23.2.1, x27⟩ : G_law_draw)) hx27 rfl (.cons 0 rfl (by nofun) (.cons 1 rfl (by nofun) .nil)) (.cons 0 rfl (.cons 1 rfl .nil)) (hG := fun G e => trivial)) J.je_int J.dv_val J.dv_val) (fun hp => ?_) (fun hp => ?_) (fun q29 => ?_)
    · have h := J.ifT hp hs28
      change J.JS _ _ (⟨[(J.Slot.v (.ref p0)), (J.Slot.val (a1 : Int)), (J.Slot.val (s4.2.2.1 : (List Int))), (J.Slot.val (s4.2.2.2 : Int)), (J.Slot.val (x15.1 : Int)), (J.Slot.v (.ref p16)), (J.Slot.val (x21 : Int)), J.Slot.any, J.Slot.any, (J.Slot.val (x26 : Int))], [(p0, (J.Cel.lst [(J.Slot.v (.ref p0_0)), (J.Slot.val (a0_1 : Int)), (J.Slot.val (x27.2.1 : Int))])), (p0_0, (J.Cel.lst ((x27.2.2 : List Int).map J.Slot.val))), (p16, (J.Cel.lst ((s19.2.2 : List Int).map J.Slot.val)))]⟩ : J.Stt) _ _
      obtain ⟨x30, hx30, h⟩ := J.bndE h
      refine J.js_set (hN := hN) 9 (J.je_call (f := F_law_draw K) (ok_law_draw W) hr (by decide) W.g__law_draw W.F__law_draw.kp W.b__law_draw (J.ja_cons (J.je_var 0 rfl) (J.ja_cons (J.je_len (n := "len") (xs := s4.2.2.1) W.l_len (J.je_var 2 rfl) J.lv_val) J.ja_nil)) (g := (⟨p0, p0_0, ((s4.2.2.1).length : Int), x27.2.2, a0_1, x27.2.1, x30⟩ : G_law_draw)) hx30 rfl (.cons 0 rfl (by nofun) (.cons 1 rfl (by nofun) .nil)) (.cons 0 rfl (.cons 1 rfl .nil)) (hG := fun G e => trivial)) ?_
      change J.JS _ _ (⟨[(J.Slot.v (.ref p0)), (J.Slot.val (a1 : Int)), (J.Slot.val (s4.2.2.1 : (List Int))), (J.Slot.val (s4.2.2.2 : Int)), (J.Slot.val (x15.1 : Int)), (J.Slot.v (.ref p16)), (J.Slot.val (x21 : Int)), J.Slot.any, J.Slot.any, (J.Slot.val (x30.1 : Int))], [(p0, (J.Cel.lst [(J.Slot.v (.ref p0_0)), (J.Slot.val (a0_1 : Int)), (J.Slot.val (x30.2.1 : Int))])), (p0_0, (J.Cel.lst ((x30.2.2 : List Int).map J.Slot.val))), (p16, (J.Cel.lst ((s19.2.2 : List Int).map J.Slot.val)))]⟩ : J.Stt) _ _
      have h9 := Option.some.inj h
      subst h9
      exact J.js_loopEnd (Sq := fun (q29 : Unit) (s28 : (Int × ((List Int) × Int))) => (⟨[(J.Slot.v (.ref p0)), (J.Slot.val (a1 : Int)), (J.Slot.val (s4.2.2.1 : (List Int))), (J.Slot.val (s4.2.2.2 : Int)), (J.Slot.val (x15.1 : Int)), (J.Slot.v (.ref p16)), (J.Slot.val (x21 : Int)), J.Slot.any, J.Slot.any, (J.Slot.val (s28.2.2 : Int))], [(p0, (J.Cel.lst [(J.Slot.v (.ref p0_0)), (J.Slot.val (a0_1 : Int)), (J.Slot.val (s28.1 : Int))])), (p0_0, (J.Cel.lst ((s28.2.1 : List Int).map J.Slot.val))), (p16, (J.Cel.lst ((s19.2.2 : List Int).map J.Slot.val)))]⟩ : J.Stt)) (s' := (x30.2.1, (x30.2.2, x30.1))) 3 () (.keep (.keep (.keep (.keep (.keep (.keep (.keep (.drop (.drop (.keep .nil)))))))))) rfl rfl
    · have h := J.ifF hp hs28
      change J.JS _ _ (⟨[(J.Slot.v (.ref p0)), (J.Slot.val (a1 : Int)), (J.Slot.val (s4.2.2.1 : (List Int))), (J.Slot.val (s4.2.2.2 : Int)), (J.Slot.val (x15.1 : Int)), (J.Slot.v (.ref p16)), (J.Slot.val (x21 : Int)), J.Slot.any, J.Slot.any, (J.Slot.val (x26 : Int))], [(p0, (J.Cel.lst [(J.Slot.v (.ref p0_0)), (J.Slot.val (a0_1 : Int)), (J.Slot.val (x27.2.1 : Int))])), (p0_0, (J.Cel.lst ((x27.2.2 : List Int).map J.Slot.val))), (p16, (J.Cel.lst ((s19.2.2 : List Int).map J.Slot.val)))]⟩ : J.Stt) _ _
      have h9 := Option.some.inj h
      subst h9
      exact J.js_loopEnd (Sq := fun (q29 : Unit) (s28 : (Int × ((List Int) × Int))) => (⟨[(J.Slot.v (.ref p0)), (J.Slot.val (a1 : Int)), (J.Slot.val (s4.2.2.1 : (List Int))), (J.Slot.val (s4.2.2.2 : Int)), (J.Slot.val (x15.1 : Int)), (J.Slot.v (.ref p16)), (J.Slot.val (x21 : Int)), J.Slot.any, J.Slot.any, (J.Slot.val (s28.2.2 : Int))], [(p0, (J.Cel.lst [(J.Slot.v (.ref p0_0)), (J.Slot.val (a0_1 : Int)), (J.Slot.val (s28.1 : Int))])), (p0_0, (J.Cel.lst ((s28.2.1 : List Int).map J.Slot.val))), (p16, (J.Cel.lst ((s19.2.2 : List Int).map J.Slot.val)))]⟩ : J.Stt)) (s' := (x27.2.1, (x27.2.2, x26))) 3 () (.keep (.keep (.keep (.keep (.keep (.keep (.keep (.drop (.drop (.keep .nil)))))))))) rfl rfl
    obtain ⟨x31, hx31, h⟩ := J.bndE h
    obtain ⟨x32, hx32, h⟩ := J.bndE h
    refine J.js_expr (J.je_appG (xs := s19.2.2) (t := (x31 : Int)) 2 (J.je_var 5 rfl) rfl (J.je_ixv (xs := s4.2.2.1) (J.je_var 2 rfl) (J.je_var 9 rfl) J.lv_val hx31) rfl hx32) ?_
    have h9 := Option.some.inj h
    subst h9
    exact J.js_nil fun T tv σ H g => ⟨(), J.le_fgt (sl := [(J.Slot.v (.ref p0)), (J.Slot.val (a1 : Int)), (J.Slot.val (s4.2.2.1 : (List Int))), (J.Slot.val (s4.2.2.2 : Int)), (J.Slot.val (x15.1 : Int)), (J.Slot.v (.ref p16)), J.Slot.any, J.Slot.any, J.Slot.any, J.Slot.any]) (cs := [(p0, (J.Cel.lst [(J.Slot.v (.ref p0_0)), (J.Slot.val (a0_1 : Int)), (J.Slot.val ((s28.1, (s28.2.1, x32)).1 : Int))])), (p0_0, (J.Cel.lst (((s28.1, (s28.2.1, x32)).2.1 : List Int).map J.Slot.val))), (p16, (J.Cel.lst (((s28.1, (s28.2.1, x32)).2.2 : List Int).map J.Slot.val)))]) 3 (.keep (.keep (.keep (.keep (.keep (.keep (.drop (.drop (.drop (.drop .nil)))))))))) rfl _ _ _ _ g⟩
  change J.JS _ _ (⟨[(J.Slot.v (.ref p0)), (J.Slot.val (a1 : Int)), (J.Slot.val (s4.2.2.1 : (List Int))), (J.Slot.val (s4.2.2.2 : Int)), (J.Slot.val (x15.1 : Int)), (J.Slot.v (.ref p16)), J.Slot.any, J.Slot.any, J.Slot.any, J.Slot.any], [(p0, (J.Cel.lst [(J.Slot.v (.ref p0_0)), (J.Slot.val (a0_1 : Int)), (J.Slot.val (s33.1 : Int))])), (p0_0, (J.Cel.lst ((s33.2.1 : List Int).map J.Slot.val))), (p16, (J.Cel.lst ((s33.2.2 : List Int).map J.Slot.val)))]⟩ : J.Stt) _ _
  have h9 := Option.some.inj h
  subst h9
  exact J.js_ret (J.je_own 2 (J.je_var 5 rfl) rfl) fun v H o => J.Out.take 2 o
structure G_law_lot where
  p0 : PySem.Addr
  p0_0 : PySem.Addr
  a0_0 : (List Int)
  a0_1 : Int
  a0_2 : Int
  out : ((List (List Int)) × (Int × (List Int)))
abbrev R_law_lot (r : ((List (List Int)) × (Int × (List Int)))) : J.Slot := (J.Slot.own (J.mlC J.intsC (r.1 : List (List Int))))
abbrev C_law_lot (p0 : PySem.Addr) (p0_0 : PySem.Addr) (a0_0 : (List Int)) (a0_1 : Int) (a0_2 : Int) (r : ((List (List Int)) × (Int × (List Int)))) : List (PySem.Addr × J.Cel) := [(p0, (J.Cel.lst [(J.Slot.v (.ref p0_0)), (J.Slot.val (a0_1 : Int)), (J.Slot.val (r.2.1 : Int))])), (p0_0, (J.Cel.lst ((r.2.2 : List Int).map J.Slot.val)))]
abbrev A_law_lot (p0 : PySem.Addr) (p0_0 : PySem.Addr) (a0_0 : (List Int)) (a0_1 : Int) (a0_2 : Int) : List J.Slot := [(J.Slot.v (.ref p0))]
abbrev D_law_lot (p0 : PySem.Addr) (p0_0 : PySem.Addr) (a0_0 : (List Int)) (a0_1 : Int) (a0_2 : Int) : List (PySem.Addr × J.Cel) := [(p0, (J.Cel.lst [(J.Slot.v (.ref p0_0)), (J.Slot.val (a0_1 : Int)), (J.Slot.val (a0_2 : Int))])), (p0_0, (J.Cel.lst ((a0_0 : List Int).map J.Slot.val)))]
def F_law_lot (K : PySem.W.Frag) : J.FS G_law_lot where
  pre := fun g => m_law_lot g.a0_0 g.a0_1 g.a0_2 = some g.out
  preG := fun _ _ => True
  args := fun g => A_law_lot g.p0 g.p0_0 g.a0_0 g.a0_1 g.a0_2
  cells := fun g => D_law_lot g.p0 g.p0_0 g.a0_0 g.a0_1 g.a0_2
  res := fun g => R_law_lot g.out
  cells' := fun g => C_law_lot g.p0 g.p0_0 g.a0_0 g.a0_1 g.a0_2 g.out
theorem ok_law_lot (W : Wd K mg) : FnOk P w K mg base CX0 4 W.a__law_lot W.d__law_lot ["bag"] (F_law_lot K).sp := by
  refine J.fn_okD (F_law_lot K) W.F__law_lot sc__law_lot (fun g => rfl) (fun g => by intro s hs; simp only [F_law_lot, List.mem_cons, List.not_mem_nil, or_false] at hs; rcases hs with rfl <;> first | rfl | exact J.xsl_plain) (fun cdv A outer s H E hr B g h hG => ?_)
  have hN := (sc__law_lot).nd
  obtain ⟨p0, p0_0, a0_0, a0_1, a0_2, r0⟩ := g
  change m_law_lot a0_0 a0_1 a0_2 = some r0 at h
  unfold m_law_lot at h
  change J.JS _ B (⟨[(J.Slot.v (.ref p0)), J.Slot.any], [(p0, (J.Cel.lst [(J.Slot.v (.ref p0_0)), (J.Slot.val (a0_1 : Int)), (J.Slot.val (a0_2 : Int))])), (p0_0, (J.Cel.lst ((a0_0 : List Int).map J.Slot.val)))]⟩ : J.Stt) _ (J.fend B (F_law_lot K) ⟨p0, p0_0, a0_0, a0_1, a0_2, r0⟩)
  obtain ⟨x1, hx1, h⟩ := J.bndE h
  obtain ⟨x2, hx2, h⟩ := J.bndE h
  obtain ⟨x9, hx9, h⟩ := J.bndE h
  have h9 := Option.some.inj h
  subst h9
  exact J.js_ret (J.je_lc (f := m_law_lot_c0 a0_1) (el := fun (z9 : List Int) => J.Slot.own (J.intsC z9)) (Sf := fun (s3 : (Int × (List Int))) => (⟨[(J.Slot.v (.ref p0)), J.Slot.any], [(p0, (J.Cel.lst [(J.Slot.v (.ref p0_0)), (J.Slot.val (a0_1 : Int)), (J.Slot.val (s3.1 : Int))])), (p0_0, (J.Cel.lst ((s3.2 : List Int).map J.Slot.val)))]⟩ : J.Stt)) (Sb := fun (s3 : (Int × (List Int))) (x5 : Int) => (⟨[(J.Slot.v (.ref p0)), (J.Slot.val (x5 : Int))], [(p0, (J.Cel.lst [(J.Slot.v (.ref p0_0)), (J.Slot.val (a0_1 : Int)), (J.Slot.val (s3.1 : Int))])), (p0_0, (J.Cel.lst ((s3.2 : List Int).map J.Slot.val)))]⟩ : J.Stt)) (s0 := (x1.2.1, x1.2.2)) (own := [(("k" : PySem.Str), 1)]) (ws := [1]) (J.lcM_of hx9).2 (J.lcM_of hx9).1 hN (L2.blkOk_by (N := ["bag", "k"]) (sc := defScope s__law_lot) (by decide +kernel)) (J.ji_rngG W.l_range (J.je_call (f := F_law_draw K) (ok_law_draw W) hr (by decide) W.g__law_draw W.F__law_draw.kp W.b__law_draw (J.ja_cons (J.je_var 0 rfl) (J.ja_cons J.je_int J.ja_nil)) (g := (⟨p0, p0_0, 7, a0_0, a0_1, a0_2, x1⟩ : G_law_draw)) hx1 rfl (.cons 0 rfl (by nofun) (.cons 1 rfl (by nofun) .nil)) (.cons 0 rfl (.cons 1 rfl .nil)) (hG := fun G e => trivial)) hx2) (J.le_fgt 2 (.keep (.drop .nil)) rfl) (fun _ => trivial) (fun _ => J.any_at rfl) (by decide) (fun s3 x5 => fun s1 H1 C1 cl1 fp1 =>  J.inJG hN fun hN => (J.jg_name 1 (hN := hN))) (fun s3 x5 o sZ _ h => by
      unfold m_law_lot_c0 at h
      obtain ⟨x6, hx6, h⟩ := J.bndE h
      obtain ⟨x7, hx7, h⟩ := J.bndE h
      obtain ⟨x8, hx8, h⟩ := J.bndE h
      obtain ⟨h8, h9⟩ := Prod.mk.inj (Option.some.inj h)
      subst h8
      subst h9
      exact ⟨true, _, (fun s1 H1 C1 cl1 fp1 =>  J.jts_nil), fun _ => ⟨_, _, rfl, (fun s1 H1 C1 cl1 fp1 =>  J.inJE hr hN fun hr hN => (J.je_call (f := F_law_line K) (ok_law_line W) hr (by decide) W.g__law_line W.F__law_line.kp W.b__law_line (J.ja_cons (J.je_var 0 rfl) (J.ja_cons (J.je_ixv (xs := ([5, 9, 14, 14, 30, 30, 60, 200] : List Int)) (J.je_lstv (xs := ([5, 9, 14, 14, 30, 30, 60, 200] : List Int)) (J.ja_cons J.je_int (J.ja_cons J.je_int (J.ja_cons J.je_int (J.ja_cons J.je_int (J.ja_cons J.je_int (J.ja_cons J.je_int (J.ja_cons J.je_int (J.ja_cons J.je_int J.ja_nil))))))))) (J.je_call (f := F_law_draw K) (ok_law_draw W) hr (by decide) W.g__law_draw W.F__law_draw.kp W.b__law_draw (J.ja_cons (J.je_var 0 rfl) (J.ja_cons J.je_int J.ja_nil)) (g := (⟨p0, p0_0, 8, s3.2, a0_1, s3.1, x6⟩ : G_law_draw)) hx6 rfl (.cons 0 rfl (by nofun) (.cons 1 rfl (by nofun) .nil)) (.cons 0 rfl (.cons 1 rfl .nil)) (hG := fun G e => trivial)) J.lv_own' hx7) J.ja_nil)) (g := (⟨p0, p0_0, x7, x6.2.2, a0_1, x6.2.1, x8⟩ : G_law_line)) hx8 rfl (.cons 0 rfl (by nofun) (.cons 1 rfl (by nofun) .nil)) (.cons 0 rfl (.cons 1 rfl .nil)) (hG := fun G e => trivial))), (J.le_fgt 2 (.keep (.drop .nil)) rfl)⟩, nofun⟩)) fun v H o => J.Out.take 2 o
structure G_law_many where
  p0 : PySem.Addr
  p0_0 : PySem.Addr
  a0_0 : (List Int)
  a0_1 : Int
  a0_2 : Int
  out : (Int × (Int × (List Int)))
abbrev R_law_many (r : (Int × (Int × (List Int)))) : J.Slot := (J.Slot.val (r.1 : Int))
abbrev C_law_many (p0 : PySem.Addr) (p0_0 : PySem.Addr) (a0_0 : (List Int)) (a0_1 : Int) (a0_2 : Int) (r : (Int × (Int × (List Int)))) : List (PySem.Addr × J.Cel) := [(p0, (J.Cel.lst [(J.Slot.v (.ref p0_0)), (J.Slot.val (a0_1 : Int)), (J.Slot.val (r.2.1 : Int))])), (p0_0, (J.Cel.lst ((r.2.2 : List Int).map J.Slot.val)))]
abbrev A_law_many (p0 : PySem.Addr) (p0_0 : PySem.Addr) (a0_0 : (List Int)) (a0_1 : Int) (a0_2 : Int) : List J.Slot := [(J.Slot.v (.ref p0))]
abbrev D_law_many (p0 : PySem.Addr) (p0_0 : PySem.Addr) (a0_0 : (List Int)) (a0_1 : Int) (a0_2 : Int) : List (PySem.Addr × J.Cel) := [(p0, (J.Cel.lst [(J.Slot.v (.ref p0_0)), (J.Slot.val (a0_1 : Int)), (J.Slot.val (a0_2 : Int))])), (p0_0, (J.Cel.lst ((a0_0 : List Int).map J.Slot.val)))]
def F_law_many (K : PySem.W.Frag) : J.FS G_law_many where
  pre := fun g => m_law_many g.a0_0 g.a0_1 g.a0_2 = some g.out
  preG := fun _ _ => True
  args := fun g => A_law_many g.p0 g.p0_0 g.a0_0 g.a0_1 g.a0_2
  cells := fun g => D_law_many g.p0 g.p0_0 g.a0_0 g.a0_1 g.a0_2
  res := fun g => R_law_many g.out
  cells' := fun g => C_law_many g.p0 g.p0_0 g.a0_0 g.a0_1 g.a0_2 g.out
theorem ok_law_many (W : Wd K mg) : FnOk P w K mg base CX0 2 W.a__law_many W.d__law_many ["bag"] (F_law_many K).sp := by
  refine J.fn_okD (F_law_many K) W.F__law_many sc__law_many (fun g => rfl) (fun g => by intro s hs; simp only [F_law_many, List.mem_cons, List.not_mem_nil, or_false] at hs; rcases hs with rfl <;> first | rfl | exact J.xsl_plain) (fun cdv A outer s H E hr B g h hG => ?_)
  have hN := (sc__law_many).nd
  obtain ⟨p0, p0_0, a0_0, a0_1, a0_2, r0⟩ := g
  change m_law_many a0_0 a0_1 a0_2 = some r0 at h
  unfold m_law_many at h
  change J.JS _ B (⟨[(J.Slot.v (.ref p0))], [(p0, (J.Cel.lst [(J.Slot.v (.ref p0_0)), (J.Slot.val (a0_1 : Int)), (J.Slot.val (a0_2 : Int))])), (p0_0, (J.Cel.lst ((a0_0 : List Int).map J.Slot.val)))]⟩ : J.Stt) _ (J.fend B (F_law_many K) ⟨p0, p0_0, a0_0, a0_1, a0_2, r0⟩)
  obtain ⟨x1, hx1, h⟩ := J.bndE h
  obtain ⟨x2, hx2, h⟩ := J.bndE h
  obtain ⟨x3, hx3, h⟩ := J.bndE h
  obtain ⟨x4, hx4, h⟩ := J.bndE h
  obtain ⟨x5, hx5, h⟩ := J.bndE h
  have h9 := Option.some.inj h
  subst h9
  exact J.js_ret (J.je_ixv (xs := ([1, 2, (1 + x1.1), (1 + x2.1), (1 + x3.1)] : List Int)) (J.je_lstv (xs := ([1, 2, (1 + x1.1), (1 + x2.1), (1 + x3.1)] : List Int)) (J.ja_cons J.je_int (J.ja_cons J.je_int (J.ja_cons (J.je_add J.je_int (J.je_call (f := F_law_draw K) (ok_law_draw W) hr (by decide) W.g__law_draw W.F__law_draw.kp W.b__law_draw (J.ja_cons (J.je_var 0 rfl) (J.ja_cons J.je_int J.ja_nil)) (g := (⟨p0, p0_0, 8, a0_0, a0_1, a0_2, x1⟩ : G_law_draw)) hx1 rfl (.cons 0 rfl (by nofun) (.cons 1 rfl (by nofun) .nil)) (.cons 0 rfl (.cons 1 rfl .nil)) (hG := fun G e => trivial))) (J.ja_cons (J.je_add J.je_int (J.je_call (f := F_law_draw K) (ok_law_draw W) hr (by decide) W.g__law_draw W.F__law_draw.kp W.b__law_draw (J.ja_cons (J.je_var 0 rfl) (J.ja_cons J.je_int J.ja_nil)) (g := (⟨p0, p0_0, 16, x1.2.2, a0_1, x1.2.1, x2⟩ : G_law_draw)) hx2 rfl (.cons 0 rfl (by nofun) (.cons 1 rfl (by nofun) .nil)) (.cons 0 rfl (.cons 1 rfl .nil)) (hG := fun G e => trivial))) (J.ja_cons (J.je_add J.je_int (J.je_call (f := F_law_draw K) (ok_law_draw W) hr (by decide) W.g__law_draw W.F__law_draw.kp W.b__law_draw (J.ja_cons (J.je_var 0 rfl) (J.ja_cons J.je_int J.ja_nil)) (g := (⟨p0, p0_0, 64, x2.2.2, a0_1, x2.2.1, x3⟩ : G_law_draw)) hx3 rfl (.cons 0 rfl (by nofun) (.cons 1 rfl (by nofun) .nil)) (.cons 0 rfl (.cons 1 rfl .nil)) (hG := fun G e => trivial))) J.ja_nil)))))) (J.je_call (f := F_law_draw K) (ok_law_draw W) hr (by decide) W.g__law_draw W.F__law_draw.kp W.b__law_draw (J.ja_cons (J.je_var 0 rfl) (J.ja_cons J.je_int J.ja_nil)) (g := (⟨p0, p0_0, 5, x3.2.2, a0_1, x3.2.1, x4⟩ : G_law_draw)) hx4 rfl (.cons 0 rfl (by nofun) (.cons 1 rfl (by nofun) .nil)) (.cons 0 rfl (.cons 1 rfl .nil)) (hG := fun G e => trivial)) J.lv_own' hx5) fun v H o => J.Out.take 2 o
structure G_law_size where
  p0 : PySem.Addr
  p0_0 : PySem.Addr
  a0_0 : (List Int)
  a0_1 : Int
  a0_2 : Int
  out : (Int × (Int × (List Int)))
abbrev R_law_size (r : (Int × (Int × (List Int)))) : J.Slot := (J.Slot.val (r.1 : Int))
abbrev C_law_size (p0 : PySem.Addr) (p0_0 : PySem.Addr) (a0_0 : (List Int)) (a0_1 : Int) (a0_2 : Int) (r : (Int × (Int × (List Int)))) : List (PySem.Addr × J.Cel) := [(p0, (J.Cel.lst [(J.Slot.v (.ref p0_0)), (J.Slot.val (a0_1 : Int)), (J.Slot.val (r.2.1 : Int))])), (p0_0, (J.Cel.lst ((r.2.2 : List Int).map J.Slot.val)))]
abbrev A_law_size (p0 : PySem.Addr) (p0_0 : PySem.Addr) (a0_0 : (List Int)) (a0_1 : Int) (a0_2 : Int) : List J.Slot := [(J.Slot.v (.ref p0))]
abbrev D_law_size (p0 : PySem.Addr) (p0_0 : PySem.Addr) (a0_0 : (List Int)) (a0_1 : Int) (a0_2 : Int) : List (PySem.Addr × J.Cel) := [(p0, (J.Cel.lst [(J.Slot.v (.ref p0_0)), (J.Slot.val (a0_1 : Int)), (J.Slot.val (a0_2 : Int))])), (p0_0, (J.Cel.lst ((a0_0 : List Int).map J.Slot.val)))]
def F_law_size (K : PySem.W.Frag) : J.FS G_law_size where
  pre := fun g => m_law_size g.a0_0 g.a0_1 g.a0_2 = some g.out
  preG := fun _ _ => True
  args := fun g => A_law_size g.p0 g.p0_0 g.a0_0 g.a0_1 g.a0_2
  cells := fun g => D_law_size g.p0 g.p0_0 g.a0_0 g.a0_1 g.a0_2
  res := fun g => R_law_size g.out
  cells' := fun g => C_law_size g.p0 g.p0_0 g.a0_0 g.a0_1 g.a0_2 g.out
theorem ok_law_size (W : Wd K mg) : FnOk P w K mg base CX0 2 W.a__law_size W.d__law_size ["bag"] (F_law_size K).sp := by
  refine J.fn_okD (F_law_size K) W.F__law_size sc__law_size (fun g => rfl) (fun g => by intro s hs; simp only [F_law_size, List.mem_cons, List.not_mem_nil, or_false] at hs; rcases hs with rfl <;> first | rfl | exact J.xsl_plain) (fun cdv A outer s H E hr B g h hG => ?_)
  have hN := (sc__law_size).nd
  obtain ⟨p0, p0_0, a0_0, a0_1, a0_2, r0⟩ := g
  change m_law_size a0_0 a0_1 a0_2 = some r0 at h
  unfold m_law_size at h
  change J.JS _ B (⟨[(J.Slot.v (.ref p0))], [(p0, (J.Cel.lst [(J.Slot.v (.ref p0_0)), (J.Slot.val (a0_1 : Int)), (J.Slot.val (a0_2 : Int))])), (p0_0, (J.Cel.lst ((a0_0 : List Int).map J.Slot.val)))]⟩ : J.Stt) _ (J.fend B (F_law_size K) ⟨p0, p0_0, a0_0, a0_1, a0_2, r0⟩)
  obtain ⟨x1, hx1, h⟩ := J.bndE h
  obtain ⟨x2, hx2, h⟩ := J.bndE h
  obtain ⟨x3, hx3, h⟩ := J.bndE h
  have h9 := Option.some.inj h
  subst h9
  exact J.js_ret (J.je_ixv (xs := ([1, 2, (1 + x1.1), 300] : List Int)) (J.je_lstv (xs := ([1, 2, (1 + x1.1), 300] : List Int)) (J.ja_cons J.je_int (J.ja_cons J.je_int (J.ja_cons (J.je_add J.je_int (J.je_call (f := F_law_draw K) (ok_law_draw W) hr (by decide) W.g__law_draw W.F__law_draw.kp W.b__law_draw (J.ja_cons (J.je_var 0 rfl) (J.ja_cons J.je_int J.ja_nil)) (g := (⟨p0, p0_0, 9, a0_0, a0_1, a0_2, x1⟩ : G_law_draw)) hx1 rfl (.cons 0 rfl (by nofun) (.cons 1 rfl (by nofun) .nil)) (.cons 0 rfl (.cons 1 rfl .nil)) (hG := fun G e => trivial))) (J.ja_cons J.je_int J.ja_nil))))) (J.je_call (f := F_law_draw K) (ok_law_draw W) hr (by decide) W.g__law_draw W.F__law_draw.kp W.b__law_draw (J.ja_cons (J.je_var 0 rfl) (J.ja_cons J.je_int J.ja_nil)) (g := (⟨p0, p0_0, 4, x1.2.2, a0_1, x1.2.1, x2⟩ : G_law_draw)) hx2 rfl (.cons 0 rfl (by nofun) (.cons 1 rfl (by nofun) .nil)) (.cons 0 rfl (.cons 1 rfl .nil)) (hG := fun G e => trivial)) J.lv_own' hx3) fun v H o => J.Out.take 2 o
structure G_law_rounds where
  a0 : (List (List Int))
  a1 : Int
  out : (List (Int × Int))
abbrev R_law_rounds (r : (List (Int × Int))) : J.Slot := (J.Slot.own (J.Cel.lst ((r : List (Int × Int)).map J.Slot.val)))
abbrev C_law_rounds (a0 : (List (List Int))) (a1 : Int) (r : (List (Int × Int))) : List (PySem.Addr × J.Cel) := []
abbrev A_law_rounds (a0 : (List (List Int))) (a1 : Int) : List J.Slot := [(J.Slot.val (a0 : (List (List Int)))), (J.Slot.val (a1 : Int))]
abbrev D_law_rounds (a0 : (List (List Int))) (a1 : Int) : List (PySem.Addr × J.Cel) := []
def F_law_rounds (K : PySem.W.Frag) : J.FS G_law_rounds where
  pre := fun g => m_law_rounds g.a0 g.a1 = some g.out
  preG := fun _ _ => True
  args := fun g => A_law_rounds g.a0 g.a1
  cells := fun g => D_law_rounds g.a0 g.a1
  res := fun g => R_law_rounds g.out
  cells' := fun g => C_law_rounds g.a0 g.a1 g.out
theorem ok_law_rounds (W : Wd K mg) : FnOk P w K mg base CX0 1 W.a__law_rounds W.d__law_rounds ["lot", "size"] (F_law_rounds K).sp := by
  refine J.fn_okD (F_law_rounds K) W.F__law_rounds sc__law_rounds (fun g => rfl) (fun g => by intro s hs; simp only [F_law_rounds, List.mem_cons, List.not_mem_nil, or_false] at hs; rcases hs with rfl | rfl <;> first | rfl | exact J.xsl_plain) (fun cdv A outer s H E hr B g h hG => ?_)
  have hN := (sc__law_rounds).nd
  obtain ⟨a0, a1, r0⟩ := g
  change m_law_rounds a0 a1 = some r0 at h
  unfold m_law_rounds at h
  change J.JS _ B (⟨[(J.Slot.val (a0 : (List (List Int)))), (J.Slot.val (a1 : Int)), J.Slot.any, J.Slot.any, J.Slot.any, J.Slot.any, J.Slot.any], []⟩ : J.Stt) _ (J.fend B (F_law_rounds K) ⟨a0, a1, r0⟩)
  obtain ⟨x4, hx4, h⟩ := J.bndE h
  refine J.js_new (hN := hN) 2 (J.je_lc (f := m_law_rounds_c0) (el := J.Slot.val) (Sf := fun (s1 : Unit) => (⟨[(J.Slot.val (a0 : (List (List Int)))), (J.Slot.val (a1 : Int)), J.Slot.any, J.Slot.any, J.Slot.any, J.Slot.any, J.Slot.any], []⟩ : J.Stt)) (Sb := fun (s1 : Unit) (x3 : (List Int)) => (⟨[(J.Slot.val (a0 : (List (List Int)))), (J.Slot.val (a1 : Int)), J.Slot.any, J.Slot.any, J.Slot.any, (J.Slot.val (x3 : (List Int))), J.Slot.any], []⟩ : J.Stt)) (s0 := ()) (own := [(("one" : PySem.Str), 5)]) (ws := [5]) (J.lcM_of hx4).2 (J.lcM_of hx4).1 hN (L2.blkOk_by (N := ["lot", "size", "at", "found", "k", "one", "page"]) (sc := defScope s__law_rounds) (by decide +kernel)) (J.ji_val (xs := a0) (J.je_var 0 rfl)) (J.le_fgt 0 (.keep (.keep (.drop (.drop (.drop (.drop (.drop .nil))))))) rfl) (fun _ => trivial) (fun _ => J.any_at rfl) (by decide) (fun s1 x3 => fun s1 H1 C1 cl1 fp1 =>  J.inJG hN fun hN => (J.jg_name 5 (hN := hN))) (fun s1 x3 o sZ _ h => by
      unfold m_law_rounds_c0 at h
      obtain ⟨h8, h9⟩ := Prod.mk.inj (Option.some.inj h)
      subst h8
      subst h9
      exact ⟨true, _, (fun s1 H1 C1 cl1 fp1 =>  J.jts_nil), fun _ => ⟨_, _, rfl, (fun s1 H1 C1 cl1 fp1 =>  J.inJE hr hN fun hr hN => J.je_int), (J.le_fgt 0 (.keep (.keep (.drop (.drop (.drop (.drop (.drop .nil))))))) rfl)⟩, nofun⟩)) fun p5 => ?_
  refine J.js_new (hN := hN) 3 (J.je_lstv (xs := ([] : List (Int × Int))) J.ja_nil) fun p6 => ?_
  obtain ⟨s31, hs31, h⟩ := J.bndE h
  refine J.js_whileE (π := Unit) (c := m_law_rounds_t4 a0) (f := m_law_rounds_w5 a0 a1) (Sf := fun (q8 : Unit) (s7 : ((List Int) × (List (Int × Int)))) => (⟨[(J.Slot.val (a0 : (List (List Int)))), (J.Slot.val (a1 : Int)), (J.Slot.v (.ref p5)), (J.Slot.v (.ref p6)), J.Slot.any, J.Slot.any, J.Slot.any], [(p5, (J.Cel.lst ((s7.1 : List Int).map J.Slot.val))), (p6, (J.Cel.lst ((s7.2 : List (Int × Int)).map J.Slot.val)))]⟩ : J.Stt)) hs31 (fun _ _ _ _ g => ⟨(), J.le_fgt (sl := [(J.Slot.val (a0 : (List (List Int)))), (J.Slot.val (a1 : Int)), (J.Slot.v (.ref p5)), (J.Slot.v (.ref p6)), J.Slot.any, J.Slot.any, J.Slot.any]) (cs := [(p5, (J.Cel.lst (((x4.1, ([] : List (Int × Int))).1 : List Int).map J.Slot.val))), (p6, (J.Cel.lst (((x4.1, ([] : List (Int × Int))).2 : List (Int × Int)).map J.Slot.val)))]) 2 (.keep (.keep (.keep (.keep (.drop (.drop (.drop .nil))))))) rfl _ _ _ _ g⟩) (fun q8 s7 p h => ?_) (fun q8 s7 sY _ h => ?_) (fun q8 => ?_)
  · unfold m_law_rounds_t4 at h
    obtain ⟨x9, hx9, h⟩ := J.bndE h
    obtain ⟨x15, hx15, h⟩ := J.bndE h
    have h9 := Option.some.inj h
    subst h9
    exact (J.jt_ne' (t := (x15.1 : (List Int))) (r := (([] : List Int) : (List Int))) hr (J.je_lc (f := m_law_rounds_c1 a0 s7) (el := J.Slot.val) (Sf := fun (s10 : Unit) => (⟨[(J.Slot.val (a0 : (List (List Int)))), (J.Slot.val (a1 : Int)), (J.Slot.v (.ref p5)), (J.Slot.v (.ref p6)), J.Slot.any, J.Slot.any, J.Slot.any], [(p5, (J.Cel.lst ((s7.1 : List Int).map J.Slot.val))), (p6, (J.Cel.lst ((s7.2 : List (Int × Int)).map J.Slot.val)))]⟩ : J.Stt)) (Sb := fun (s10 : Unit) (x12 : Int) => (⟨[(J.Slot.val (a0 : (List (List Int)))), (J.Slot.val (a1 : Int)), (J.Slot.v (.ref p5)), (J.Slot.v (.ref p6)), (J.Slot.val (x12 : Int)), J.Slot.any, J.Slot.any], [(p5, (J.Cel.lst ((s7.1 : List Int).map J.Slot.val))), (p6, (J.Cel.lst ((s7.2 : List (Int × Int)).map J.Slot.val)))]⟩ : J.Stt)) (s0 := ()) (own := [(("k" : PySem.Str), 4)]) (ws := [4]) (J.lcM_of hx15).2 (J.lcM_of hx15).1 hN (L2.blkOk_by (N := ["lot", "size", "at", "found", "k", "one", "page"]) (sc := defScope s__law_rounds) (by decide +kernel)) (J.ji_rngG W.l_range (J.je_len (n := "len") (xs := a0) W.l_len (J.je_var 0 rfl) J.lv_val) hx9) (J.le_fgt 2 (.keep (.keep (.keep (.keep (.drop (.drop (.drop .nil))))))) rfl) (fun _ => trivial) (fun _ => J.any_at rfl) (by decide) (fun s10 x12 => fun s1 H1 C1 cl1 fp1 =>  J.inJG hN fun hN => (J.jg_name 4 (hN := hN))) (fun s10 x12 o sZ _ h => by
      unfold m_law_rounds_c1 at h
      obtain ⟨x13, hx13, h⟩ := J.bndE h
      obtain ⟨x14, hx14, h⟩ := J.bndE h
      by_cases hp : (decide (x13 < ((x14).length : Int))) = true
      · replace h := J.ifT hp h
        obtain ⟨h8, h9⟩ := Prod.mk.inj (Option.some.inj h)
        subst h8
        subst h9
        exact ⟨true, _, (fun s1 H1 C1 cl1 fp1 =>  J.inJTs hr hN fun hr hN => J.jts_one (J.jt_eq (J.jt_lt (J.je_ixv (xs := s7.1) (J.je_var 2 rfl) (J.je_var 4 rfl) (J.lv_cell' 0 rfl) hx13) (J.je_len (n := "len") (xs := x14) W.l_len (J.je_ixv (xs := a0) (J.je_var 0 rfl) (J.je_var 4 rfl) J.lv_val hx14) J.lv_val)) hp)), fun _ => ⟨_, _, rfl, (fun s1 H1 C1 cl1 fp1 =>  J.inJE hr hN fun hr hN => (J.je_var 4 rfl)), (J.le_fgt 2 (.keep (.keep (.keep (.keep (.drop (.drop (.drop .nil))))))) rfl)⟩, nofun⟩
      · rw [Bool.not_eq_true] at hp
        replace h := J.ifF hp h
        obtain ⟨h8, h9⟩ := Prod.mk.inj (Option.some.inj h)
        subst h8
        subst h9
        exact ⟨false, _, (fun s1 H1 C1 cl1 fp1 =>  J.inJTs hr hN fun hr hN => J.jts_one (J.jt_eq (J.jt_lt (J.je_ixv (xs := s7.1) (J.je_var 2 rfl) (J.je_var 4 rfl) (J.lv_cell' 0 rfl) hx13) (J.je_len (n := "len") (xs := x14) W.l_len (J.je_ixv (xs := a0) (J.je_var 0 rfl) (J.je_var 4 rfl) J.lv_val hx14) J.lv_val)) hp)), nofun, fun _ => ⟨rfl, (J.le_fgt 2 (.keep (.keep (.keep (.keep (.drop (.drop (.drop .nil))))))) rfl)⟩⟩)) (J.je_lstv (xs := ([] : List Int)) J.ja_nil) J.dv_ownL J.dv_ownL)
  · unfold m_law_rounds_w5 at h
    change J.JS _ _ (⟨[(J.Slot.val (a0 : (List (List Int)))), (J.Slot.val (a1 : Int)), (J.Slot.v (.ref p5)), (J.Slot.v (.ref p6)), J.Slot.any, J.Slot.any, J.Slot.any], [(p5, (J.Cel.lst ((s7.1 : List Int).map J.Slot.val))), (p6, (J.Cel.lst ((s7.2 : List (Int × Int)).map J.Slot.val)))]⟩ : J.Stt) _ _
    obtain ⟨x16, hx16, h⟩ := J.bndE h
    obtain ⟨s30, hs30, h⟩ := J.bndE h
    refine J.js_forE (π := Unit) (f := m_law_rounds_b3 a0 a1) (Sf := fun (q18 : Unit) (s17 : ((List Int) × (List (Int × Int)))) => (⟨[(J.Slot.val (a0 : (List (List Int)))), (J.Slot.val (a1 : Int)), (J.Slot.v (.ref p5)), (J.Slot.v (.ref p6)), J.Slot.any, J.Slot.any, J.Slot.any], [(p5, (J.Cel.lst ((s17.1 : List Int).map J.Slot.val))), (p6, (J.Cel.lst ((s17.2 : List (Int × Int)).map J.Slot.val)))]⟩ : J.Stt)) (Sb := fun (q18 : Unit) (s17 : ((List Int) × (List (Int × Int)))) (x19 : Int) => (⟨[(J.Slot.val (a0 : (List (List Int)))), (J.Slot.val (a1 : Int)), (J.Slot.v (.ref p5)), (J.Slot.v (.ref p6)), (J.Slot.val (x19 : Int)), J.Slot.any, J.Slot.any], [(p5, (J.Cel.lst ((s17.1 : List Int).map J.Slot.val))), (p6, (J.Cel.lst ((s17.2 : List (Int × Int)).map J.Slot.val)))]⟩ : J.Stt)) hs30 (J.ji_rngG W.l_range (J.je_len (n := "len") (xs := a0) W.l_len (J.je_var 0 rfl) J.lv_val) hx16) (fun _ _ _ _ g => ⟨(), J.le_fgt (sl := [(J.Slot.val (a0 : (List (List Int)))), (J.Slot.val (a1 : Int)), (J.Slot.v (.ref p5)), (J.Slot.v (.ref p6)), J.Slot.any, J.Slot.any, J.Slot.any]) (cs := [(p5, (J.Cel.lst (((s7.1, s7.2).1 : List Int).map J.Slot.val))), (p6, (J.Cel.lst (((s7.1, s7.2).2 : List (Int × Int)).map J.Slot.val)))]) 2 (.keep (.keep (.keep (.keep (.drop (.drop (.drop .nil))))))) rfl _ _ _ _ g⟩) (fun _ _ => trivial) (fun q18 s17 x19 => (J.jg_name 4 (hN := hN))) (fun q18 s17 x19 sY _ h => ?_) (fun q18 => ?_)
    · unfold m_law_rounds_b3 at h
      change J.JS _ _ (⟨[(J.Slot.val (a0 : (List (List Int)))), (J.Slot.val (a1 : Int)), (J.Slot.v (.ref p5)), (J.Slot.v (.ref p6)), (J.Slot.val (x19 : Int)), J.Slot.any, J.Slot.any], [(p5, (J.Cel.lst ((s17.1 : List Int).map J.Slot.val))), (p6, (J.Cel.lst ((s17.2 : List (Int × Int)).map J.Slot.val)))]⟩ : J.Stt) _ _
      obtain ⟨x20, hx20, h⟩ := J.bndE h
      obtain ⟨x21, hx21, h⟩ := J.bndE h
      obtain ⟨x22, hx22, h⟩ := J.bndE h
      obtain ⟨s27, hs27, h⟩ := J.bndE h
      refine J.js_forE (π := Unit) (f := m_law_rounds_b2 x19) (Sf := fun (q24 : Unit) (s23 : (List (Int × Int))) => (⟨[(J.Slot.val (a0 : (List (List Int)))), (J.Slot.val (a1 : Int)), (J.Slot.v (.ref p5)), (J.Slot.v (.ref p6)), (J.Slot.val (x19 : Int)), J.Slot.any, J.Slot.any], [(p5, (J.Cel.lst ((s17.1 : List Int).map J.Slot.val))), (p6, (J.Cel.lst ((s23 : List (Int × Int)).map J.Slot.val)))]⟩ : J.Stt)) (Sb := fun (q24 : Unit) (s23 : (List (Int × Int))) (x25 : Int) => (⟨[(J.Slot.val (a0 : (List (List Int)))), (J.Slot.val (a1 : Int)), (J.Slot.v (.ref p5)), (J.Slot.v (.ref p6)), (J.Slot.val (x19 : Int)), J.Slot.any, (J.Slot.val (x25 : Int))], [(p5, (J.Cel.lst ((s17.1 : List Int).map J.Slot.val))), (p6, (J.Cel.lst ((s23 : List (Int × Int)).map J.Slot.val)))]⟩ : J.Stt)) hs27 (J.ji_own (xs := (J.slc x20 (some x21) (some (x22 + a1)))) (J.je_slcv (xs := x20) (J.je_ixv (xs := a0) (J.je_var 0 rfl) (J.je_var 4 rfl) J.lv_val hx20) (J.jo_some (J.je_ixv (xs := s17.1) (J.je_var 2 rfl) (J.je_var 4 rfl) (J.lv_cell' 0 rfl) hx21)) (J.jo_some (J.je_add (J.je_ixv (xs := s17.1) (J.je_var 2 rfl) (J.je_var 4 rfl) (J.lv_cell' 0 rfl) hx22) (J.je_var 1 rfl))) J.lv_val)) (fun _ _ _ _ g => ⟨(), J.le_fgt (sl := [(J.Slot.val (a0 : (List (List Int)))), (J.Slot.val (a1 : Int)), (J.Slot.v (.ref p5)), (J.Slot.v (.ref p6)), (J.Slot.val (x19 : Int)), J.Slot.any, J.Slot.any]) (cs := [(p5, (J.Cel.lst ((s17.1 : List Int).map J.Slot.val))), (p6, (J.Cel.lst (((s17.2) : List (Int × Int)).map J.Slot.val)))]) 2 (.keep (.keep (.keep (.keep (.keep (.drop (.drop .nil))))))) rfl _ _ _ _ g⟩) (fun _ _ => trivial) (fun q24 s23 x25 => (J.jg_name 6 (hN := hN))) (fun q24 s23 x25 sY _ h => ?_) (fun q24 => ?_)
      · unfold m_law_rounds_b2 at h
        change J.JS _ _ (⟨[(J.Slot.val (a0 : (List (List Int)))), (J.Slot.val (a1 : Int)), (J.Slot.v (.ref p5)), (J.Slot.v (.ref p6)), (J.Slot.val (x19 : Int)), J.Slot.any, (J.Slot.val (x25 : Int))], [(p5, (J.Cel.lst ((s17.1 : List Int).map J.Slot.val))), (p6, (J.Cel.lst ((s23 : List (Int × Int)).map J.Slot.val)))]⟩ : J.Stt) _ _
        obtain ⟨x26, hx26, h⟩ := J.bndE h
        refine J.js_expr (J.je_appG (xs := s23) (t := ((x19, x25) : (Int × Int))) 1 (J.je_var 3 rfl) rfl (J.je_tup (t := ((x19, x25) : (Int × Int))) (J.ja_cons (J.je_var 4 rfl) (J.ja_cons (J.je_var 6 rfl) J.ja_nil)) (J.SlDs.cons J.sld_val (J.SlDs.cons J.sld_val J.SlDs.nil)) rfl (Nat.le_of_ble_eq_true rfl)) rfl hx26) ?_
        have h9 := Option.some.inj h
        subst h9
        exact J.js_nil fun T tv σ H g => ⟨(), J.le_fgt (sl := [(J.Slot.val (a0 : (List (List Int)))), (J.Slot.val (a1 : Int)), (J.Slot.v (.ref p5)), (J.Slot.v (.ref p6)), (J.Slot.val (x19 : Int)), J.Slot.any, J.Slot.any]) (cs := [(p5, (J.Cel.lst ((s17.1 : List Int).map J.Slot.val))), (p6, (J.Cel.lst ((x26 : List (Int × Int)).map J.Slot.val)))]) 2 (.keep (.keep (.keep (.keep (.keep (.drop (.drop .nil))))))) rfl _ _ _ _ g⟩
      change J.JS _ _ (⟨[(J.Slot.val (a0 : (List (List Int)))), (J.Slot.val (a1 : Int)), (J.Slot.v (.ref p5)), (J.Slot.v (.ref p6)), (J.Slot.val (x19 : Int)), J.Slot.any, J.Slot.any], [(p5, (J.Cel.lst ((s17.1 : List Int).map J.Slot.val))), (p6, (J.Cel.lst ((s27 : List (Int × Int)).map J.Slot.val)))]⟩ : J.Stt) _ _
      obtain ⟨x28, hx28, h⟩ := J.bndE h
      obtain ⟨x29, hx29, h⟩ := J.bndE h
      refine J.js_asg (J.je_add (J.je_ixv (xs := s17.1) (J.je_var 2 rfl) (J.je_var 4 rfl) (J.lv_cell' 0 rfl) hx28) (J.je_var 1 rfl)) (J.jg_subG (xs := s17.1) 0 (J.je_var 2 rfl) (J.je_var 4 rfl) rfl hx29) ?_
      have h9 := Option.some.inj h
      subst h9
      exact J.js_nil fun T tv σ H g => ⟨(), J.le_fgt (sl := [(J.Slot.val (a0 : (List (List Int)))), (J.Slot.val (a1 : Int)), (J.Slot.v (.ref p5)), (J.Slot.v (.ref p6)), J.Slot.any, J.Slot.any, J.Slot.any]) (cs := [(p5, (J.Cel.lst (((x29, s27).1 : List Int).map J.Slot.val))), (p6, (J.Cel.lst (((x29, s27).2 : List (Int × Int)).map J.Slot.val)))]) 2 (.keep (.keep (.keep (.keep (.drop (.drop (.drop .nil))))))) rfl _ _ _ _ g⟩
    change J.JS _ _ (⟨[(J.Slot.val (a0 : (List (List Int)))), (J.Slot.val (a1 : Int)), (J.Slot.v (.ref p5)), (J.Slot.v (.ref p6)), J.Slot.any, J.Slot.any, J.Slot.any], [(p5, (J.Cel.lst ((s30.1 : List Int).map J.Slot.val))), (p6, (J.Cel.lst ((s30.2 : List (Int × Int)).map J.Slot.val)))]⟩ : J.Stt) _ _
    have h9 := Option.some.inj h
    subst h9
    exact J.js_nil fun T tv σ H g => ⟨(), J.le_fgt (sl := [(J.Slot.val (a0 : (List (List Int)))), (J.Slot.val (a1 : Int)), (J.Slot.v (.ref p5)), (J.Slot.v (.ref p6)), J.Slot.any, J.Slot.any, J.Slot.any]) (cs := [(p5, (J.Cel.lst (((s30.1, s30.2).1 : List Int).map J.Slot.val))), (p6, (J.Cel.lst (((s30.1, s30.2).2 : List (Int × Int)).map J.Slot.val)))]) 2 (.keep (.keep (.keep (.keep (.drop (.drop (.drop .nil))))))) rfl _ _ _ _ g⟩
  change J.JS _ _ (⟨[(J.Slot.val (a0 : (List (List Int)))), (J.Slot.val (a1 : Int)), (J.Slot.v (.ref p5)), (J.Slot.v (.ref p6)), J.Slot.any, J.Slot.any, J.Slot.any], [(p5, (J.Cel.lst ((s31.1 : List Int).map J.Slot.val))), (p6, (J.Cel.lst ((s31.2 : List (Int × Int)).map J.Slot.val)))]⟩ : J.Stt) _ _
  have h9 := Option.some.inj h
  subst h9
  exact J.js_ret (J.je_own 1 (J.je_var 3 rfl) rfl) fun v H o => J.Out.take 0 o
structure G_law_due where
  a0 : (List (List Int))
  a1 : Int
  a2 : Int
  out : (List (PySem.W.T4 PySem.Str Int Int (Option (Int × Int))))
abbrev R_law_due (r : (List (PySem.W.T4 PySem.Str Int Int (Option (Int × Int))))) : J.Slot := (J.Slot.own (J.Cel.lst ((r : List (PySem.W.T4 PySem.Str Int Int (Option (Int × Int)))).map J.Slot.val)))
abbrev C_law_due (a0 : (List (List Int))) (a1 : Int) (a2 : Int) (r : (List (PySem.W.T4 PySem.Str Int Int (Option (Int × Int))))) : List (PySem.Addr × J.Cel) := []
abbrev A_law_due (a0 : (List (List Int))) (a1 : Int) (a2 : Int) : List J.Slot := [(J.Slot.val (a0 : (List (List Int)))), (J.Slot.val (a1 : Int)), (J.Slot.val (a2 : Int))]
abbrev D_law_due (a0 : (List (List Int))) (a1 : Int) (a2 : Int) : List (PySem.Addr × J.Cel) := []
def F_law_due (K : PySem.W.Frag) : J.FS G_law_due where
  pre := fun g => m_law_due g.a0 g.a1 g.a2 = some g.out
  preG := fun _ _ => True
  args := fun g => A_law_due g.a0 g.a1 g.a2
  cells := fun g => D_law_due g.a0 g.a1 g.a2
  res := fun g => R_law_due g.out
  cells' := fun g => C_law_due g.a0 g.a1 g.a2 g.out
theorem ok_law_due (W : Wd K mg) : FnOk P w K mg base CX0 2 W.a__law_due W.d__law_due ["lot", "many", "size"] (F_law_due K).sp := by
  refine J.fn_okD (F_law_due K) W.F__law_due sc__law_due (fun g => rfl) (fun g => by intro s hs; simp only [F_law_due, List.mem_cons, List.not_mem_nil, or_false] at hs; rcases hs with rfl | rfl | rfl <;> first | rfl | exact J.xsl_plain) (fun cdv A outer s H E hr B g h hG => ?_)
  have hN := (sc__law_due).nd
  obtain ⟨a0, a1, a2, r0⟩ := g
  change m_law_due a0 a1 a2 = some r0 at h
  unfold m_law_due at h
  change J.JS _ B (⟨[(J.Slot.val (a0 : (List (List Int)))), (J.Slot.val (a1 : Int)), (J.Slot.val (a2 : Int)), J.Slot.any, J.Slot.any, J.Slot.any, J.Slot.any, J.Slot.any, J.Slot.any, J.Slot.any], []⟩ : J.Stt) _ (J.fend B (F_law_due K) ⟨a0, a1, a2, r0⟩)
  refine J.js_new (hN := hN) 3 (J.je_dispT0 (β := Int)) fun p1 => ?_
  refine J.js_new (hN := hN) 4 (J.je_lstv (xs := ([] : List (PySem.W.T4 PySem.Str Int Int (Option (Int × Int))))) J.ja_nil) fun p2 => ?_
  obtain ⟨x3, hx3, h⟩ := J.bndE h
  obtain ⟨s20, hs20, h⟩ := J.bndE h
  refine J.js_forE (π := Unit) (f := m_law_due_b1 a1) (Sf := fun (q5 : Unit) (s4 : ((List ((Int × Int) × Int)) × (List (PySem.W.T4 PySem.Str Int Int (Option (Int × Int)))))) => (⟨[(J.Slot.val (a0 : (List (List Int)))), (J.Slot.val (a1 : Int)), (J.Slot.val (a2 : Int)), (J.Slot.v (.ref p1)), (J.Slot.v (.ref p2)), J.Slot.any, J.Slot.any, J.Slot.any, J.Slot.any, J.Slot.any], [(p1, (J.Cel.say (J.dtC (s4.1 : List ((Int × Int) × Int))))), (p2, (J.Cel.lst ((s4.2 : List (PySem.W.T4 PySem.Str Int Int (Option (Int × Int)))).map J.Slot.val)))]⟩ : J.Stt)) (Sb := fun (q5 : Unit) (s4 : ((List ((Int × Int) × Int)) × (List (PySem.W.T4 PySem.Str Int Int (Option (Int × Int)))))) (x6 : (Int × (Int × Int))) => (⟨[(J.Slot.val (a0 : (List (List Int)))), (J.Slot.val (a1 : Int)), (J.Slot.val (a2 : Int)), (J.Slot.v (.ref p1)), (J.Slot.v (.ref p2)), (J.Slot.val (x6.1 : Int)), (J.Slot.val (x6.2 : (Int × Int))), J.Slot.any, J.Slot.any, J.Slot.any], [(p1, (J.Cel.say (J.dtC (s4.1 : List ((Int × Int) × Int))))), (p2, (J.Cel.lst ((s4.2 : List (PySem.W.T4 PySem.Str Int Int (Option (Int × Int)))).map J.Slot.val)))]⟩ : J.Stt)) hs20 (J.ji_enum (xs := x3) (ok := fun _ => True) W.l_enumerate (J.je_call (f := F_law_rounds K) (ok_law_rounds W) hr (by decide) W.g__law_rounds W.F__law_rounds.kp W.b__law_rounds (J.ja_cons (J.je_var 0 rfl) (J.ja_cons (J.je_var 2 rfl) J.ja_nil)) (g := (⟨a0, a2, x3⟩ : G_law_rounds)) hx3 rfl .nil .nil (hG := fun G e => trivial)) J.lv_own' (fun _ _ => J.lv_own')) (fun _ _ _ _ g => ⟨(), J.le_fgt (sl := [(J.Slot.val (a0 : (List (List Int)))), (J.Slot.val (a1 : Int)), (J.Slot.val (a2 : Int)), (J.Slot.v (.ref p1)), (J.Slot.v (.ref p2)), J.Slot.any, J.Slot.any, J.Slot.any, J.Slot.any, J.Slot.any]) (cs := [(p1, (J.Cel.say (J.dtC ((([] : List ((Int × Int) × Int)), ([] : List (PySem.W.T4 PySem.Str Int Int (Option (Int × Int))))).1 : List ((Int × Int) × Int))))), (p2, (J.Cel.lst (((([] : List ((Int × Int) × Int)), ([] : List (PySem.W.T4 PySem.Str Int Int (Option (Int × Int))))).2 : List (PySem.W.T4 PySem.Str Int Int (Option (Int × Int)))).map J.Slot.val)))]) 2 (.keep (.keep (.keep (.keep (.keep (.drop (.drop (.drop (.drop (.drop .nil)))))))))) rfl _ _ _ _ g⟩) (fun _ _ => trivial) (fun q5 s4 x6 => (J.jg_pair (J.jgs_cons (J.jg_name 5 (hN := hN)) (J.jgs_cons (J.jg_name 6 (hN := hN)) J.jgs_nil)))) (fun q5 s4 x6 sY _ h => ?_) (fun q5 => ?_)
  · unfold m_law_due_b1 at h
    change J.JS _ _ (⟨[(J.Slot.val (a0 : (List (List Int)))), (J.Slot.val (a1 : Int)), (J.Slot.val (a2 : Int)), (J.Slot.v (.ref p1)), (J.Slot.v (.ref p2)), (J.Slot.val (x6.1 : Int)), (J.Slot.val (x6.2 : (Int × Int))), J.Slot.any, J.Slot.any, J.Slot.any], [(p1, (J.Cel.say (J.dtC (s4.1 : List ((Int × Int) × Int))))), (p2, (J.Cel.lst ((s4.2 : List (PySem.W.T4 PySem.Str Int Int (Option (Int × Int)))).map J.Slot.val)))]⟩ : J.Stt) _ _
    refine J.js_set (hN := hN) 7 (J.je_nonO (α := (Int × Int)) J.je_non) ?_
    obtain ⟨x7, hx7, h⟩ := J.bndE h
    refine J.js_set (hN := hN) 8 (J.je_ifM (el := J.Slot.val) hx7 (J.jt_dinT (m := s4.1) (key := x6.2) 0 hr (J.je_var 6 rfl) (J.je_var 3 rfl) rfl) (fun _ r h => by
      have h9 := Option.some.inj h
      subst h9
      exact J.je_str) (fun _ r h => by
      have h9 := Option.some.inj h
      subst h9
      exact J.je_str)) ?_
    obtain ⟨s8, hs8, h⟩ := J.bndE h
    refine J.js_ifE (π := Unit) (Sq := fun (q9 : Unit) => (⟨[(J.Slot.val (a0 : (List (List Int)))), (J.Slot.val (a1 : Int)), (J.Slot.val (a2 : Int)), (J.Slot.v (.ref p1)), (J.Slot.v (.ref p2)), (J.Slot.val (x6.1 : Int)), (J.Slot.val (x6.2 : (Int × Int))), (J.Slot.val (s8.2 : (Option (Int × Int)))), (J.Slot.val (x7 : PySem.Str)), J.Slot.any], [(p1, (J.Cel.say (J.dtC (s8.1 : List ((Int × Int) × Int))))), (p2, (J.Cel.lst ((s4.2 : List (PySem.W.T4 PySem.Str Int Int (Option (Int × Int)))).map J.Slot.val)))]⟩ : J.Stt)) (J.JW.t (J.jw_and (J.jt_eq' (t := (x7 : PySem.Str)) (r := (("fault" : PySem.Str) : PySem.Str)) hr (J.je_var 8 rfl) J.je_str J.dv_val J.dv_val) fun _ => (J.jw_and1 (J.jt_eq' (t := (((s4.1).length : Int) : Int)) (r := (a1 : Int)) hr (J.je_dlenT (m := s4.1) 0 W.l_len (J.je_var 3 rfl) rfl) (J.je_var 1 rfl) J.dv_val J.dv_val)))) (fun hp => ?_) (fun hp => ?_) (fun q9 => ?_)
    · have h := J.ifT hp hs8
      obtain ⟨x14, hx14, h⟩ := J.bndE h
      obtain ⟨x15, hx15, h⟩ := J.bndE h
      refine J.js_set (hN := hN) 7 (J.je_some (J.je_tpix (t := (x15 : (Int × (Int × Int)))) (r := (x15.2 : (Int × Int))) (J.je_minG (xs := x14.1) hr W.l_min (J.je_lockT (m := s4.1) 0 rfl (fun ob gs => (J.je_lc (f := m_law_due_c0 s4) (el := J.Slot.val) (Sf := fun (s10 : Unit) => (⟨[(J.Slot.val (a0 : (List (List Int)))), (J.Slot.val (a1 : Int)), (J.Slot.val (a2 : Int)), (J.Slot.v (.ref p1)), (J.Slot.v (.ref p2)), (J.Slot.val (x6.1 : Int)), (J.Slot.val (x6.2 : (Int × Int))), (J.Slot.val (none : (Option (Int × Int)))), (J.Slot.val (x7 : PySem.Str)), J.Slot.any], [(p1, (J.Cel.say (J.fdtC ob gs (s4.1 : List ((Int × Int) × Int))))), (p2, (J.Cel.lst ((s4.2 : List (PySem.W.T4 PySem.Str Int Int (Option (Int × Int)))).map J.Slot.val)))]⟩ : J.Stt)) (Sb := fun (s10 : Unit) (x12 : (Int × Int)) => (⟨[(J.Slot.val (a0 : (List (List Int)))), (J.Slot.val (a1 : Int)), (J.Slot.val (a2 : Int)), (J.Slot.v (.ref p1)), (J.Slot.v (.ref p2)), (J.Slot.val (x6.1 : Int)), (J.Slot.val (x6.2 : (Int × Int))), (J.Slot.val (none : (Option (Int × Int)))), (J.Slot.val (x7 : PySem.Str)), (J.Slot.val (x12 : (Int × Int)))], [(p1, (J.Cel.say (J.fdtC ob gs (s4.1 : List ((Int × Int) × Int))))), (p2, (J.Cel.lst ((s4.2 : List (PySem.W.T4 PySem.Str Int Int (Option (Int × Int)))).map J.Slot.val)))]⟩ : J.Stt)) (s0 := ()) (own := [(("other" : PySem.Str), 9)]) (ws := [9]) (J.lcM_of hx14).2 (J.lcM_of hx14).1 hN (L2.blkOk_by (N := ["lot", "many", "size", "since", "found", "number", "one", "gone", "word", "other"]) (sc := defScope s__law_due) (by decide +kernel)) (J.ji_dtkeys (m := s4.1) 0 (J.je_var 3 rfl) rfl) (J.le_fgt 2 (.keep (.keep (.keep (.keep (.keep (.keep (.keep (.keep (.keep (.drop .nil)))))))))) rfl) (fun _ => rfl) (fun _ => J.any_at rfl) (by decide) (fun s10 x12 => fun s1 H1 C1 cl1 fp1 =>  J.inJG hN fun hN => (J.jg_name 9 (hN := hN))) (fun s10 x12 o sZ _ h => by
      unfold m_law_due_c0 at h
      obtain ⟨x13, hx13, h⟩ := J.bndE h
      obtain ⟨h8, h9⟩ := Prod.mk.inj (Option.some.inj h)
      subst h8
      subst h9
      exact ⟨true, _, (fun s1 H1 C1 cl1 fp1 =>  J.jts_nil), fun _ => ⟨_, _, rfl, (fun s1 H1 C1 cl1 fp1 =>  J.inJE hr hN fun hr hN => (J.je_tup (t := ((x13, x12) : (Int × (Int × Int)))) (J.ja_cons (J.je_dgetFT (m := s4.1) 0 hr (J.je_var 3 rfl) (J.je_var 9 rfl) rfl hx13) (J.ja_cons (J.je_var 9 rfl) J.ja_nil)) (J.SlDs.cons J.sld_val (J.SlDs.cons J.sld_val J.SlDs.nil)) rfl (Nat.le_of_ble_eq_true rfl))), (J.le_fgt 2 (.keep (.keep (.keep (.keep (.keep (.keep (.keep (.keep (.keep (.drop .nil)))))))))) rfl)⟩, nofun⟩)))) J.lv_own' hx15) J.je_int rfl rfl)) ?_
      obtain ⟨x16, hx16, h⟩ := J.bndE h
      obtain ⟨x17, hx17, h⟩ := J.bndE h
      refine J.js_expr (J.je_dpopT (m := s4.1) (key := x16) 0 hr (J.je_var 3 rfl) rfl (J.je_get (J.je_var 7 rfl) hx16) rfl hx17) ?_
      have h9 := Option.some.inj h
      subst h9
      exact J.js_loopEnd (Sq := fun (q9 : Unit) (s8 : ((List ((Int × Int) × Int)) × (Option (Int × Int)))) => (⟨[(J.Slot.val (a0 : (List (List Int)))), (J.Slot.val (a1 : Int)), (J.Slot.val (a2 : Int)), (J.Slot.v (.ref p1)), (J.Slot.v (.ref p2)), (J.Slot.val (x6.1 : Int)), (J.Slot.val (x6.2 : (Int × Int))), (J.Slot.val (s8.2 : (Option (Int × Int)))), (J.Slot.val (x7 : PySem.Str)), J.Slot.any], [(p1, (J.Cel.say (J.dtC (s8.1 : List ((Int × Int) × Int))))), (p2, (J.Cel.lst ((s4.2 : List (PySem.W.T4 PySem.Str Int Int (Option (Int × Int)))).map J.Slot.val)))]⟩ : J.Stt)) (s' := ((J.tdrop s4.1 x16), (some x15.2))) 2 () (.keep (.keep (.keep (.keep (.keep (.keep (.keep (.keep (.keep (.drop .nil)))))))))) rfl rfl
    · have h := J.ifF hp hs8
      have h9 := Option.some.inj h
      subst h9
      exact J.js_loopEnd (Sq := fun (q9 : Unit) (s8 : ((List ((Int × Int) × Int)) × (Option (Int × Int)))) => (⟨[(J.Slot.val (a0 : (List (List Int)))), (J.Slot.val (a1 : Int)), (J.Slot.val (a2 : Int)), (J.Slot.v (.ref p1)), (J.Slot.v (.ref p2)), (J.Slot.val (x6.1 : Int)), (J.Slot.val (x6.2 : (Int × Int))), (J.Slot.val (s8.2 : (Option (Int × Int)))), (J.Slot.val (x7 : PySem.Str)), J.Slot.any], [(p1, (J.Cel.say (J.dtC (s8.1 : List ((Int × Int) × Int))))), (p2, (J.Cel.lst ((s4.2 : List (PySem.W.T4 PySem.Str Int Int (Option (Int × Int)))).map J.Slot.val)))]⟩ : J.Stt)) (s' := (s4.1, none)) 2 () (.keep (.keep (.keep (.keep (.keep (.keep (.keep (.keep (.keep (.drop .nil)))))))))) rfl rfl
    obtain ⟨x18, hx18, h⟩ := J.bndE h
    refine J.js_dputT (m := s8.1) (key := x6.2) 0 hr (J.je_var 5 rfl) (J.je_var 3 rfl) (J.je_var 6 rfl) rfl hx18 ?_
    change J.JS _ _ (⟨[(J.Slot.val (a0 : (List (List Int)))), (J.Slot.val (a1 : Int)), (J.Slot.val (a2 : Int)), (J.Slot.v (.ref p1)), (J.Slot.v (.ref p2)), (J.Slot.val (x6.1 : Int)), (J.Slot.val (x6.2 : (Int × Int))), (J.Slot.val (s8.2 : (Option (Int × Int)))), (J.Slot.val (x7 : PySem.Str)), J.Slot.any], [(p1, (J.Cel.say (J.dtC (x18 : List ((Int × Int) × Int))))), (p2, (J.Cel.lst ((s4.2 : List (PySem.W.T4 PySem.Str Int Int (Option (Int × Int)))).map J.Slot.val)))]⟩ : J.Stt) _ _
    obtain ⟨x19, hx19, h⟩ := J.bndE h
    refine J.js_expr (J.je_appG (xs := s4.2) (t := ((PySem.W.T4.mk x7 x6.2.1 x6.2.2 s8.2) : (PySem.W.T4 PySem.Str Int Int (Option (Int × Int))))) 1 (J.je_var 4 rfl) rfl (J.je_tup (t := ((PySem.W.T4.mk x7 x6.2.1 x6.2.2 s8.2) : (PySem.W.T4 PySem.Str Int Int (Option (Int × Int))))) (J.ja_cons (J.je_var 8 rfl) (J.ja_cons (J.je_tpix (t := (x6.2 : (Int × Int))) (r := (x6.2.1 : Int)) (J.je_var 6 rfl) J.je_int rfl rfl) (J.ja_cons (J.je_tpix (t := (x6.2 : (Int × Int))) (r := (x6.2.2 : Int)) (J.je_var 6 rfl) J.je_int rfl rfl) (J.ja_cons (J.je_var 7 rfl) J.ja_nil)))) (J.SlDs.cons J.sld_val (J.SlDs.cons J.sld_val (J.SlDs.cons J.sld_val (J.SlDs.cons J.sld_val J.SlDs.nil)))) rfl (Nat.le_of_ble_eq_true rfl)) rfl hx19) ?_
    have h9 := Option.some.inj h
    subst h9
    exact J.js_nil fun T tv σ H g => ⟨(), J.le_fgt (sl := [(J.Slot.val (a0 : (List (List Int)))), (J.Slot.val (a1 : Int)), (J.Slot.val (a2 : Int)), (J.Slot.v (.ref p1)), (J.Slot.v (.ref p2)), J.Slot.any, J.Slot.any, J.Slot.any, J.Slot.any, J.Slot.any]) (cs := [(p1, (J.Cel.say (J.dtC ((x18, x19).1 : List ((Int × Int) × Int))))), (p2, (J.Cel.lst (((x18, x19).2 : List (PySem.W.T4 PySem.Str Int Int (Option (Int × Int)))).map J.Slot.val)))]) 2 (.keep (.keep (.keep (.keep (.keep (.drop (.drop (.drop (.drop (.drop .nil)))))))))) rfl _ _ _ _ g⟩
  change J.JS _ _ (⟨[(J.Slot.val (a0 : (List (List Int)))), (J.Slot.val (a1 : Int)), (J.Slot.val (a2 : Int)), (J.Slot.v (.ref p1)), (J.Slot.v (.ref p2)), J.Slot.any, J.Slot.any, J.Slot.any, J.Slot.any, J.Slot.any], [(p1, (J.Cel.say (J.dtC (s20.1 : List ((Int × Int) × Int))))), (p2, (J.Cel.lst ((s20.2 : List (PySem.W.T4 PySem.Str Int Int (Option (Int × Int)))).map J.Slot.val)))]⟩ : J.Stt) _ _
  have h9 := Option.some.inj h
  subst h9
  exact J.js_ret (J.je_own 1 (J.je_var 4 rfl) rfl) fun v H o => J.Out.take 0 o
structure G_need_room where
  a0 : Int
  out : Unit
abbrev R_need_room (r : Unit) : J.Slot := (J.Slot.v .non)
abbrev C_need_room (a0 : Int) (r : Unit) : List (PySem.Addr × J.Cel) := []
abbrev A_need_room (a0 : Int) : List J.Slot := [(J.Slot.val (a0 : Int))]
abbrev D_need_room (a0 : Int) : List (PySem.Addr × J.Cel) := []
def F_need_room (K : PySem.W.Frag) : J.FS G_need_room where
  pre := fun g => m_need_room g.a0 = some g.out
  preG := fun _ _ => True
  args := fun g => A_need_room g.a0
  cells := fun g => D_need_room g.a0
  res := fun g => R_need_room g.out
  cells' := fun g => C_need_room g.a0 g.out
theorem ok_need_room (W : Wd K mg) : FnOk P w K mg base CX0 1 W.a_need_room W.d_need_room ["room"] (F_need_room K).sp := by
  refine J.fn_okD (F_need_room K) W.F_need_room sc_need_room (fun g => rfl) (fun g => by intro s hs; simp only [F_need_room, List.mem_cons, List.not_mem_nil, or_false] at hs; rcases hs with rfl <;> first | rfl | exact J.xsl_plain) (fun cdv A outer s H E hr B g h hG => ?_)
  have hN := (sc_need_room).nd
  obtain ⟨a0, r0⟩ := g
  change m_need_room a0 = some r0 at h
  unfold m_need_room at h
  change J.JS _ B (⟨[(J.Slot.val (a0 : Int))], []⟩ : J.Stt) _ (J.fend B (F_need_room K) ⟨a0, r0⟩)
  refine J.js_if (J.jt_lt (J.je_var 0 rfl) J.je_int) (fun hp => ?_) (fun hp => ?_)
  · replace h := J.ifT hp h
    exact nomatch h
  · replace h := J.ifF hp h
    refine J.js_end ?_
    change J.JS _ _ (⟨[(J.Slot.val (a0 : Int))], []⟩ : J.Stt) _ _
    have h9 := Option.some.inj h
    subst h9
    exact J.js_fin 0 rfl rfl
structure G_Line_init where
  p0 : PySem.Addr
  a1 : Int
  out : (Int × (List (Int × Int)))
abbrev R_Line_init {K : PySem.W.Frag} {mg : Str → Option Value} (W : Wd K mg) (r : (Int × (List (Int × Int)))) : J.Slot := (J.Slot.v .non)
abbrev C_Line_init {K : PySem.W.Frag} {mg : Str → Option Value} (W : Wd K mg) (p0 : PySem.Addr) (a1 : Int) (r : (Int × (List (Int × Int)))) : List (PySem.Addr × J.Cel) := [(p0, (J.Cel.ins W.C_Line [(("line_room" : PySem.Str), (J.Slot.val (r.1 : Int))), (("line_pages" : PySem.Str), (J.Slot.own (J.Cel.lst ((r.2 : List (Int × Int)).map J.Slot.val)))), (("is_moved" : PySem.Str), (J.Slot.val (true : Bool)))]))]
abbrev A_Line_init {K : PySem.W.Frag} {mg : Str → Option Value} (W : Wd K mg) (p0 : PySem.Addr) (a1 : Int) : List J.Slot := [(J.Slot.v (.ref p0)), (J.Slot.val (a1 : Int)), (J.Slot.val (true : Bool))]
abbrev D_Line_init {K : PySem.W.Frag} {mg : Str → Option Value} (W : Wd K mg) (p0 : PySem.Addr) (a1 : Int) : List (PySem.Addr × J.Cel) := [(p0, (J.Cel.ins W.C_Line []))]
def F_Line_init {K : PySem.W.Frag} {mg : Str → Option Value} (W : Wd K mg)  : J.FS G_Line_init where
  pre := fun g => m_Line_init g.a1 = some g.out
  preG := fun _ _ => True
  args := fun g => A_Line_init W g.p0 g.a1
  cells := fun g => D_Line_init W g.p0 g.a1
  res := fun g => R_Line_init W g.out
  cells' := fun g => C_Line_init W g.p0 g.a1 g.out
theorem ok_Line_init (W : Wd K mg) : FnOk P w K mg base CX0 1 W.a_Line_init W.d_Line_init ["self", "room", "is_moved"] (F_Line_init (W)).sp := by
  refine J.fn_okD (F_Line_init (W)) W.F_Line_init sc_Line_init (fun g => rfl) (fun g => by intro s hs; simp only [F_Line_init, List.mem_cons, List.not_mem_nil, or_false] at hs; rcases hs with rfl | rfl | rfl <;> first | rfl | exact J.xsl_plain) (fun cdv A outer s H E hr B g h hG => ?_)
  have hN := (sc_Line_init).nd
  obtain ⟨p0, a1, r0⟩ := g
  change m_Line_init a1 = some r0 at h
  unfold m_Line_init at h
  change J.JS _ B (⟨[(J.Slot.v (.ref p0)), (J.Slot.val (a1 : Int)), (J.Slot.val (true : Bool))], [(p0, (J.Cel.ins W.C_Line []))]⟩ : J.Stt) _ (J.fend B (F_Line_init (W)) ⟨p0, a1, r0⟩)
  refine J.js_fput 0 W.cl_Line W.na_Line_line_room (J.je_var 1 rfl) (J.je_var 0 rfl) rfl ?_
  change J.JS _ _ (⟨[(J.Slot.v (.ref p0)), (J.Slot.val (a1 : Int)), (J.Slot.val (true : Bool))], [(p0, (J.Cel.ins W.C_Line [(("line_room" : PySem.Str), (J.Slot.val (a1 : Int)))]))]⟩ : J.Stt) _ _
  refine J.js_fputN 0 W.cl_Line W.na_Line_line_pages (J.je_lstv (xs := ([] : List (Int × Int))) J.ja_nil) (fun _ => (J.je_var 0 rfl)) (fun _ => rfl) (fun p1 => ?_)
  change J.JS _ _ (⟨[(J.Slot.v (.ref p0)), (J.Slot.val (a1 : Int)), (J.Slot.val (true : Bool))], [(p0, (J.Cel.ins W.C_Line [(("line_room" : PySem.Str), (J.Slot.val (a1 : Int))), (("line_pages" : PySem.Str), (J.Slot.v (.ref p1)))])), (p1, (J.Cel.lst ((([] : List (Int × Int)) : List (Int × Int)).map J.Slot.val)))]⟩ : J.Stt) _ _
  refine J.js_fput 0 W.cl_Line W.na_Line_is_moved (J.je_var 2 rfl) (J.je_var 0 rfl) rfl ?_
  change J.JS _ _ (⟨[(J.Slot.v (.ref p0)), (J.Slot.val (a1 : Int)), (J.Slot.val (true : Bool))], [(p0, (J.Cel.ins W.C_Line [(("line_room" : PySem.Str), (J.Slot.val (a1 : Int))), (("line_pages" : PySem.Str), (J.Slot.v (.ref p1))), (("is_moved" : PySem.Str), (J.Slot.val (true : Bool)))])), (p1, (J.Cel.lst ((([] : List (Int × Int)) : List (Int × Int)).map J.Slot.val)))]⟩ : J.Stt) _ _
  refine J.js_foldC 0 1 1 rfl rfl rfl ?_
  change J.JS _ _ (⟨[(J.Slot.v (.ref p0)), (J.Slot.val (a1 : Int)), (J.Slot.val (true : Bool))], [(p0, J.Cel.gone), (p1, J.Cel.gone), (p0, (J.Cel.ins W.C_Line [(("line_room" : PySem.Str), (J.Slot.val (a1 : Int))), (("line_pages" : PySem.Str), (J.Slot.own (J.Cel.lst ((([] : List (Int × Int)) : List (Int × Int)).map J.Slot.val)))), (("is_moved" : PySem.Str), (J.Slot.val (true : Bool)))]))]⟩ : J.Stt) _ _
  refine J.js_mv 0 2 rfl rfl ?_
  change J.JS _ _ (⟨[(J.Slot.v (.ref p0)), (J.Slot.val (a1 : Int)), (J.Slot.val (true : Bool))], [(p0, (J.Cel.ins W.C_Line [(("line_room" : PySem.Str), (J.Slot.val (a1 : Int))), (("line_pages" : PySem.Str), (J.Slot.own (J.Cel.lst ((([] : List (Int × Int)) : List (Int × Int)).map J.Slot.val)))), (("is_moved" : PySem.Str), (J.Slot.val (true : Bool)))])), (p1, J.Cel.gone), (p0, J.Cel.gone)]⟩ : J.Stt) _ _
  have h9 := Option.some.inj h
  subst h9
  exact J.js_fin 1 rfl rfl
structure G_Room_init where
  p0 : PySem.Addr
  a1 : Int
  out : (Int × (List (Int × Int)))
abbrev R_Room_init {K : PySem.W.Frag} {mg : Str → Option Value} (W : Wd K mg) (r : (Int × (List (Int × Int)))) : J.Slot := (J.Slot.v .non)
abbrev C_Room_init {K : PySem.W.Frag} {mg : Str → Option Value} (W : Wd K mg) (p0 : PySem.Addr) (a1 : Int) (r : (Int × (List (Int × Int)))) : List (PySem.Addr × J.Cel) := [(p0, (J.Cel.ins W.C_Room [(("keeper" : PySem.Str), (J.Slot.own (J.Cel.ins W.C_Line [(("line_room" : PySem.Str), (J.Slot.val (r.1 : Int))), (("line_pages" : PySem.Str), (J.Slot.own (J.Cel.lst ((r.2 : List (Int × Int)).map J.Slot.val)))), (("is_moved" : PySem.Str), (J.Slot.val (true : Bool)))])))]))]
abbrev A_Room_init {K : PySem.W.Frag} {mg : Str → Option Value} (W : Wd K mg) (p0 : PySem.Addr) (a1 : Int) : List J.Slot := [(J.Slot.v (.ref p0)), (J.Slot.val (a1 : Int)), (J.Slot.val (("last" : PySem.Str) : PySem.Str))]
abbrev D_Room_init {K : PySem.W.Frag} {mg : Str → Option Value} (W : Wd K mg) (p0 : PySem.Addr) (a1 : Int) : List (PySem.Addr × J.Cel) := [(p0, (J.Cel.ins W.C_Room []))]
def F_Room_init {K : PySem.W.Frag} {mg : Str → Option Value} (W : Wd K mg)  : J.FS G_Room_init where
  pre := fun g => m_Room_init g.a1 = some g.out
  preG := fun _ _ => True
  args := fun g => A_Room_init W g.p0 g.a1
  cells := fun g => D_Room_init W g.p0 g.a1
  res := fun g => R_Room_init W g.out
  cells' := fun g => C_Room_init W g.p0 g.a1 g.out
theorem ok_Room_init (W : Wd K mg) : FnOk P w K mg base CX0 3 W.a_Room_init W.d_Room_init ["self", "room", "rule"] (F_Room_init (W)).sp := by
  refine J.fn_okD (F_Room_init (W)) W.F_Room_init sc_Room_init (fun g => rfl) (fun g => by intro s hs; simp only [F_Room_init, List.mem_cons, List.not_mem_nil, or_false] at hs; rcases hs with rfl | rfl | rfl <;> first | rfl | exact J.xsl_plain) (fun cdv A outer s H E hr B g h hG => ?_)
  have hN := (sc_Room_init).nd
  obtain ⟨p0, a1, r0⟩ := g
  change m_Room_init a1 = some r0 at h
  unfold m_Room_init at h
  change J.JS _ B (⟨[(J.Slot.v (.ref p0)), (J.Slot.val (a1 : Int)), (J.Slot.val (("last" : PySem.Str) : PySem.Str))], [(p0, (J.Cel.ins W.C_Room []))]⟩ : J.Stt) _ (J.fend B (F_Room_init (W)) ⟨p0, a1, r0⟩)
  obtain ⟨x1, hx1, h⟩ := J.bndE h
  refine J.js_fputN 0 W.cl_Room W.na_Room_keeper (J.je_ifF (J.jt_eq (J.jt_eq' (t := (("last" : PySem.Str) : PySem.Str)) (r := (("clock" : PySem.Str) : PySem.Str)) hr (J.je_var 2 rfl) J.je_str J.dv_val J.dv_val) (q := false) (by decide)) (J.je_mk (fr := F_Line_init W) (fs' := [(("line_room" : PySem.Str), (J.Slot.val (x1.1 : Int))), (("line_pages" : PySem.Str), (J.Slot.own (J.Cel.lst ((x1.2 : List (Int × Int)).map J.Slot.val)))), (("is_moved" : PySem.Str), (J.Slot.val (true : Bool)))]) W.k_Line_init (ok_Line_init W) hr (by decide) W.gC_Line W.b_Line_init (J.ja_cons (J.je_var 1 rfl) (J.ja_cons (J.je_boolc (J.jc_eq (t := (("last" : PySem.Str) : PySem.Str)) (r := (("last" : PySem.Str) : PySem.Str)) hr (J.je_var 2 rfl) J.je_str J.dv_val J.dv_val) (c := true) (by decide)) J.ja_nil)) (fun p9 => (⟨p9, a1, x1⟩ : G_Line_init)) (fun _ => hx1) (fun _ => rfl) (fun _ => rfl) (fun _ => rfl) (fun _ => rfl))) (fun _ => (J.je_var 0 rfl)) (fun _ => rfl) (fun p2 => ?_)
  change J.JS _ _ (⟨[(J.Slot.v (.ref p0)), (J.Slot.val (a1 : Int)), (J.Slot.val (("last" : PySem.Str) : PySem.Str))], [(p0, (J.Cel.ins W.C_Room [(("keeper" : PySem.Str), (J.Slot.v (.ref p2)))])), (p2, (J.Cel.ins W.C_Line [(("line_room" : PySem.Str), (J.Slot.val (x1.1 : Int))), (("line_pages" : PySem.Str), (J.Slot.own (J.Cel.lst ((x1.2 : List (Int × Int)).map J.Slot.val)))), (("is_moved" : PySem.Str), (J.Slot.val (true : Bool)))]))]⟩ : J.Stt) _ _
  refine J.js_foldC 0 1 0 rfl rfl rfl ?_
  change J.JS _ _ (⟨[(J.Slot.v (.ref p0)), (J.Slot.val (a1 : Int)), (J.Slot.val (("last" : PySem.Str) : PySem.Str))], [(p0, J.Cel.gone), (p2, J.Cel.gone), (p0, (J.Cel.ins W.C_Room [(("keeper" : PySem.Str), (J.Slot.own (J.Cel.ins W.C_Line [(("line_room" : PySem.Str), (J.Slot.val (x1.1 : Int))), (("line_pages" : PySem.Str), (J.Slot.own (J.Cel.lst ((x1.2 : List (Int × Int)).map J.Slot.val)))), (("is_moved" : PySem.Str), (J.Slot.val (true : Bool)))])))]))]⟩ : J.Stt) _ _
  refine J.js_mv 0 2 rfl rfl ?_
  change J.JS _ _ (⟨[(J.Slot.v (.ref p0)), (J.Slot.val (a1 : Int)), (J.Slot.val (("last" : PySem.Str) : PySem.Str))], [(p0, (J.Cel.ins W.C_Room [(("keeper" : PySem.Str), (J.Slot.own (J.Cel.ins W.C_Line [(("line_room" : PySem.Str), (J.Slot.val (x1.1 : Int))), (("line_pages" : PySem.Str), (J.Slot.own (J.Cel.lst ((x1.2 : List (Int × Int)).map J.Slot.val)))), (("is_moved" : PySem.Str), (J.Slot.val (true : Bool)))])))])), (p2, J.Cel.gone), (p0, J.Cel.gone)]⟩ : J.Stt) _ _
  have h9 := Option.some.inj h
  subst h9
  exact J.js_fin 1 rfl rfl
structure G_by_rounds where
  a0 : (List (List Int))
  a1 : Int
  out : (List (Int × Int))
abbrev R_by_rounds (r : (List (Int × Int))) : J.Slot := (J.Slot.own (J.Cel.lst ((r : List (Int × Int)).map J.Slot.val)))
abbrev C_by_rounds (a0 : (List (List Int))) (a1 : Int) (r : (List (Int × Int))) : List (PySem.Addr × J.Cel) := []
abbrev A_by_rounds (a0 : (List (List Int))) (a1 : Int) : List J.Slot := [(J.Slot.val (a0 : (List (List Int)))), (J.Slot.val (a1 : Int))]
abbrev D_by_rounds (a0 : (List (List Int))) (a1 : Int) : List (PySem.Addr × J.Cel) := []
def F_by_rounds (K : PySem.W.Frag) : J.FS G_by_rounds where
  pre := fun g => m_by_rounds g.a0 g.a1 = some g.out
  preG := fun _ _ => True
  args := fun g => A_by_rounds g.a0 g.a1
  cells := fun g => D_by_rounds g.a0 g.a1
  res := fun g => R_by_rounds g.out
  cells' := fun g => C_by_rounds g.a0 g.a1 g.out
theorem ok_by_rounds (W : Wd K mg) : FnOk P w K mg base CX0 1 W.a_by_rounds W.d_by_rounds ["traces", "turn"] (F_by_rounds K).sp := by
  refine J.fn_okD (F_by_rounds K) W.F_by_rounds sc_by_rounds (fun g => rfl) (fun g => by intro s hs; simp only [F_by_rounds, List.mem_cons, List.not_mem_nil, or_false] at hs; rcases hs with rfl | rfl <;> first | rfl | exact J.xsl_plain) (fun cdv A outer s H E hr B g h hG => ?_)
  have hN := (sc_by_rounds).nd
  obtain ⟨a0, a1, r0⟩ := g
  change m_by_rounds a0 a1 = some r0 at h
  unfold m_by_rounds at h
  change J.JS _ B (⟨[(J.Slot.val (a0 : (List (List Int)))), (J.Slot.val (a1 : Int)), J.Slot.any, J.Slot.any, J.Slot.any, J.Slot.any, J.Slot.any], []⟩ : J.Stt) _ (J.fend B (F_by_rounds K) ⟨a0, a1, r0⟩)
  refine J.js_new (hN := hN) 2 (J.je_lstv (xs := ([] : List (Int × Int))) J.ja_nil) fun p1 => ?_
  obtain ⟨x5, hx5, h⟩ := J.bndE h
  obtain ⟨x6, hx6, h⟩ := J.bndE h
  obtain ⟨s19, hs19, h⟩ := J.bndE h
  refine J.js_forE (π := Unit) (f := m_by_rounds_b3 a0 a1) (Sf := fun (q8 : Unit) (s7 : (List (Int × Int))) => (⟨[(J.Slot.val (a0 : (List (List Int)))), (J.Slot.val (a1 : Int)), (J.Slot.v (.ref p1)), J.Slot.any, J.Slot.any, J.Slot.any, J.Slot.any], [(p1, (J.Cel.lst ((s7 : List (Int × Int)).map J.Slot.val)))]⟩ : J.Stt)) (Sb := fun (q8 : Unit) (s7 : (List (Int × Int))) (x9 : Int) => (⟨[(J.Slot.val (a0 : (List (List Int)))), (J.Slot.val (a1 : Int)), (J.Slot.v (.ref p1)), (J.Slot.val (x9 : Int)), J.Slot.any, J.Slot.any, J.Slot.any], [(p1, (J.Cel.lst ((s7 : List (Int × Int)).map J.Slot.val)))]⟩ : J.Stt)) hs19 (J.ji_rngG3 W.l_range J.je_int (J.je_maxD (ns := x5.1) hr W.l_max (J.je_lc (f := m_by_rounds_c0) (el := J.Slot.val) (Sf := fun (s2 : Unit) => (⟨[(J.Slot.val (a0 : (List (List Int)))), (J.Slot.val (a1 : Int)), (J.Slot.v (.ref p1)), J.Slot.any, J.Slot.any, J.Slot.any, J.Slot.any], [(p1, (J.Cel.lst ((([] : List (Int × Int)) : List (Int × Int)).map J.Slot.val)))]⟩ : J.Stt)) (Sb := fun (s2 : Unit) (x4 : (List Int)) => (⟨[(J.Slot.val (a0 : (List (List Int)))), (J.Slot.val (a1 : Int)), (J.Slot.v (.ref p1)), J.Slot.any, J.Slot.any, (J.Slot.val (x4 : (List Int))), J.Slot.any], [(p1, (J.Cel.lst ((([] : List (Int × Int)) : List (Int × Int)).map J.Slot.val)))]⟩ : J.Stt)) (s0 := ()) (own := [(("trace" : PySem.Str), 5)]) (ws := [5]) (J.lcM_of hx5).2 (J.lcM_of hx5).1 hN (L2.blkOk_by (N := ["traces", "turn", "found", "begun", "job", "trace", "page"]) (sc := defScope s_by_rounds) (by decide +kernel)) (J.ji_val (xs := a0) (J.je_var 0 rfl)) (J.le_fgt 1 (.keep (.keep (.keep (.drop (.drop (.drop (.drop .nil))))))) rfl) (fun _ => trivial) (fun _ => J.any_at rfl) (by decide) (fun s2 x4 => fun s1 H1 C1 cl1 fp1 =>  J.inJG hN fun hN => (J.jg_name 5 (hN := hN))) (fun s2 x4 o sZ _ h => by
      unfold m_by_rounds_c0 at h
      obtain ⟨h8, h9⟩ := Prod.mk.inj (Option.some.inj h)
      subst h8
      subst h9
      exact ⟨true, _, (fun s1 H1 C1 cl1 fp1 =>  J.jts_nil), fun _ => ⟨_, _, rfl, (fun s1 H1 C1 cl1 fp1 =>  J.inJE hr hN fun hr hN => (J.je_len (n := "len") (xs := x4) W.l_len (J.je_var 5 rfl) J.lv_val)), (J.le_fgt 1 (.keep (.keep (.keep (.drop (.drop (.drop (.drop .nil))))))) rfl)⟩, nofun⟩)) J.je_int J.lv_own') (J.je_var 1 rfl) hx6) (fun _ _ _ _ g => ⟨(), J.le_fgt (sl := [(J.Slot.val (a0 : (List (List Int)))), (J.Slot.val (a1 : Int)), (J.Slot.v (.ref p1)), J.Slot.any, J.Slot.any, J.Slot.any, J.Slot.any]) (cs := [(p1, (J.Cel.lst ((([] : List (Int × Int)) : List (Int × Int)).map J.Slot.val)))]) 1 (.keep (.keep (.keep (.drop (.drop (.drop (.drop .nil))))))) rfl _ _ _ _ g⟩) (fun _ _ => trivial) (fun q8 s7 x9 => (J.jg_name 3 (hN := hN))) (fun q8 s7 x9 sY _ h => ?_) (fun q8 => ?_)
  · unfold m_by_rounds_b3 at h
    change J.JS _ _ (⟨[(J.Slot.val (a0 : (List (List Int)))), (J.Slot.val (a1 : Int)), (J.Slot.v (.ref p1)), (J.Slot.val (x9 : Int)), J.Slot.any, J.Slot.any, J.Slot.any], [(p1, (J.Cel.lst ((s7 : List (Int × Int)).map J.Slot.val)))]⟩ : J.Stt) _ _
    obtain ⟨s18, hs18, h⟩ := J.bndE h
    refine J.js_forE (π := Unit) (f := m_by_rounds_b2 a1 x9) (Sf := fun (q11 : Unit) (s10 : (List (Int × Int))) => (⟨[(J.Slot.val (a0 : (List (List Int)))), (J.Slot.val (a1 : Int)), (J.Slot.v (.ref p1)), (J.Slot.val (x9 : Int)), J.Slot.any, J.Slot.any, J.Slot.any], [(p1, (J.Cel.lst ((s10 : List (Int × Int)).map J.Slot.val)))]⟩ : J.Stt)) (Sb := fun (q11 : Unit) (s10 : (List (Int × Int))) (x12 : (Int × (List Int))) => (⟨[(J.Slot.val (a0 : (List (List Int)))), (J.Slot.val (a1 : Int)), (J.Slot.v (.ref p1)), (J.Slot.val (x9 : Int)), (J.Slot.val (x12.1 : Int)), (J.Slot.val (x12.2 : (List Int))), J.Slot.any], [(p1, (J.Cel.lst ((s10 : List (Int × Int)).map J.Slot.val)))]⟩ : J.Stt)) hs18 (J.ji_enum (xs := a0) (ok := fun _ => True) W.l_enumerate (J.je_var 0 rfl) J.lv_val (fun _ _ => J.lv_val)) (fun _ _ _ _ g => ⟨(), J.le_fgt (sl := [(J.Slot.val (a0 : (List (List Int)))), (J.Slot.val (a1 : Int)), (J.Slot.v (.ref p1)), (J.Slot.val (x9 : Int)), J.Slot.any, J.Slot.any, J.Slot.any]) (cs := [(p1, (J.Cel.lst ((s7 : List (Int × Int)).map J.Slot.val)))]) 1 (.keep (.keep (.keep (.keep (.drop (.drop (.drop .nil))))))) rfl _ _ _ _ g⟩) (fun _ _ => trivial) (fun q11 s10 x12 => (J.jg_pair (J.jgs_cons (J.jg_name 4 (hN := hN)) (J.jgs_cons (J.jg_name 5 (hN := hN)) J.jgs_nil)))) (fun q11 s10 x12 sY _ h => ?_) (fun q11 => ?_)
    · unfold m_by_rounds_b2 at h
      change J.JS _ _ (⟨[(J.Slot.val (a0 : (List (List Int)))), (J.Slot.val (a1 : Int)), (J.Slot.v (.ref p1)), (J.Slot.val (x9 : Int)), (J.Slot.val (x12.1 : Int)), (J.Slot.val (x12.2 : (List Int))), J.Slot.any], [(p1, (J.Cel.lst ((s10 : List (Int × Int)).map J.Slot.val)))]⟩ : J.Stt) _ _
      obtain ⟨x16, hx16, h⟩ := J.bndE h
      obtain ⟨x17, hx17, h⟩ := J.bndE h
      refine J.js_expr (J.je_extG (xs := s10) (ys := x16.1) 0 (J.je_var 2 rfl) rfl (J.je_lc (f := m_by_rounds_c1 x12) (el := J.Slot.val) (Sf := fun (s13 : Unit) => (⟨[(J.Slot.val (a0 : (List (List Int)))), (J.Slot.val (a1 : Int)), (J.Slot.v (.ref p1)), (J.Slot.val (x9 : Int)), (J.Slot.val (x12.1 : Int)), (J.Slot.val (x12.2 : (List Int))), J.Slot.any], [(p1, (J.Cel.lst ((s10 : List (Int × Int)).map J.Slot.val)))]⟩ : J.Stt)) (Sb := fun (s13 : Unit) (x15 : Int) => (⟨[(J.Slot.val (a0 : (List (List Int)))), (J.Slot.val (a1 : Int)), (J.Slot.v (.ref p1)), (J.Slot.val (x9 : Int)), (J.Slot.val (x12.1 : Int)), (J.Slot.val (x12.2 : (List Int))), (J.Slot.val (x15 : Int))], [(p1, (J.Cel.lst ((s10 : List (Int × Int)).map J.Slot.val)))]⟩ : J.Stt)) (s0 := ()) (own := [(("page" : PySem.Str), 6)]) (ws := [6]) (J.lcM_of hx16).2 (J.lcM_of hx16).1 hN (L2.blkOk_by (N := ["traces", "turn", "found", "begun", "job", "trace", "page"]) (sc := defScope s_by_rounds) (by decide +kernel)) (J.ji_own (xs := (J.slc x12.2 (some x9) (some (x9 + a1)))) (J.je_slcv (xs := x12.2) (J.je_var 5 rfl) (J.jo_some (J.je_var 3 rfl)) (J.jo_some (J.je_add (J.je_var 3 rfl) (J.je_var 1 rfl))) J.lv_val)) (J.le_fgt 1 (.keep (.keep (.keep (.keep (.keep (.keep (.drop .nil))))))) rfl) (fun _ => trivial) (fun _ => J.any_at rfl) (by decide) (fun s13 x15 => fun s1 H1 C1 cl1 fp1 =>  J.inJG hN fun hN => (J.jg_name 6 (hN := hN))) (fun s13 x15 o sZ _ h => by
      unfold m_by_rounds_c1 at h
      obtain ⟨h8, h9⟩ := Prod.mk.inj (Option.some.inj h)
      subst h8
      subst h9
      exact ⟨true, _, (fun s1 H1 C1 cl1 fp1 =>  J.jts_nil), fun _ => ⟨_, _, rfl, (fun s1 H1 C1 cl1 fp1 =>  J.inJE hr hN fun hr hN => (J.je_tup (t := ((x12.1, x15) : (Int × Int))) (J.ja_cons (J.je_var 4 rfl) (J.ja_cons (J.je_var 6 rfl) J.ja_nil)) (J.SlDs.cons J.sld_val (J.SlDs.cons J.sld_val J.SlDs.nil)) rfl (Nat.le_of_ble_eq_true rfl))), (J.le_fgt 1 (.keep (.keep (.keep (.keep (.keep (.keep (.drop .nil))))))) rfl)⟩, nofun⟩)) rfl J.lh_own hx17) ?_
      have h9 := Option.some.inj h
      subst h9
      exact J.js_nil fun T tv σ H g => ⟨(), J.le_fgt (sl := [(J.Slot.val (a0 : (List (List Int)))), (J.Slot.val (a1 : Int)), (J.Slot.v (.ref p1)), (J.Slot.val (x9 : Int)), J.Slot.any, J.Slot.any, J.Slot.any]) (cs := [(p1, (J.Cel.lst ((x17 : List (Int × Int)).map J.Slot.val)))]) 1 (.keep (.keep (.keep (.keep (.drop (.drop (.drop .nil))))))) rfl _ _ _ _ g⟩
    change J.JS _ _ (⟨[(J.Slot.val (a0 : (List (List Int)))), (J.Slot.val (a1 : Int)), (J.Slot.v (.ref p1)), (J.Slot.val (x9 : Int)), J.Slot.any, J.Slot.any, J.Slot.any], [(p1, (J.Cel.lst ((s18 : List (Int × Int)).map J.Slot.val)))]⟩ : J.Stt) _ _
    have h9 := Option.some.inj h
    subst h9
    exact J.js_nil fun T tv σ H g => ⟨(), J.le_fgt (sl := [(J.Slot.val (a0 : (List (List Int)))), (J.Slot.val (a1 : Int)), (J.Slot.v (.ref p1)), J.Slot.any, J.Slot.any, J.Slot.any, J.Slot.any]) (cs := [(p1, (J.Cel.lst ((s18 : List (Int × Int)).map J.Slot.val)))]) 1 (.keep (.keep (.keep (.drop (.drop (.drop (.drop .nil))))))) rfl _ _ _ _ g⟩
  change J.JS _ _ (⟨[(J.Slot.val (a0 : (List (List Int)))), (J.Slot.val (a1 : Int)), (J.Slot.v (.ref p1)), J.Slot.any, J.Slot.any, J.Slot.any, J.Slot.any], [(p1, (J.Cel.lst ((s19 : List (Int × Int)).map J.Slot.val)))]⟩ : J.Stt) _ _
  have h9 := Option.some.inj h
  subst h9
  exact J.js_ret (J.je_own 0 (J.je_var 2 rfl) rfl) fun v H o => J.Out.take 0 o
structure G_Line_ask where
  p0 : PySem.Addr
  p0_1 : PySem.Addr
  a1 : (Int × Int)
  a0_0 : Int
  a0_1 : (List (Int × Int))
  out : ((PySem.Str × (Option (Int × Int))) × (List (Int × Int)))
abbrev R_Line_ask {K : PySem.W.Frag} {mg : Str → Option Value} (W : Wd K mg) (r : ((PySem.Str × (Option (Int × Int))) × (List (Int × Int)))) : J.Slot := (J.Slot.val (r.1 : (PySem.Str × (Option (Int × Int)))))
abbrev C_Line_ask {K : PySem.W.Frag} {mg : Str → Option Value} (W : Wd K mg) (p0 : PySem.Addr) (p0_1 : PySem.Addr) (a1 : (Int × Int)) (a0_0 : Int) (a0_1 : (List (Int × Int))) (r : ((PySem.Str × (Option (Int × Int))) × (List (Int × Int)))) : List (PySem.Addr × J.Cel) := [(p0, (J.Cel.ins W.C_Line [(("line_room" : PySem.Str), (J.Slot.val (a0_0 : Int))), (("line_pages" : PySem.Str), (J.Slot.v (.ref p0_1))), (("is_moved" : PySem.Str), (J.Slot.val (true : Bool)))])), (p0_1, (J.Cel.lst ((r.2 : List (Int × Int)).map J.Slot.val)))]
abbrev A_Line_ask {K : PySem.W.Frag} {mg : Str → Option Value} (W : Wd K mg) (p0 : PySem.Addr) (p0_1 : PySem.Addr) (a1 : (Int × Int)) (a0_0 : Int) (a0_1 : (List (Int × Int))) : List J.Slot := [(J.Slot.v (.ref p0)), (J.Slot.val (a1 : (Int × Int)))]
abbrev D_Line_ask {K : PySem.W.Frag} {mg : Str → Option Value} (W : Wd K mg) (p0 : PySem.Addr) (p0_1 : PySem.Addr) (a1 : (Int × Int)) (a0_0 : Int) (a0_1 : (List (Int × Int))) : List (PySem.Addr × J.Cel) := [(p0, (J.Cel.ins W.C_Line [(("line_room" : PySem.Str), (J.Slot.val (a0_0 : Int))), (("line_pages" : PySem.Str), (J.Slot.v (.ref p0_1))), (("is_moved" : PySem.Str), (J.Slot.val (true : Bool)))])), (p0_1, (J.Cel.lst ((a0_1 : List (Int × Int)).map J.Slot.val)))]
def F_Line_ask {K : PySem.W.Frag} {mg : Str → Option Value} (W : Wd K mg)  : J.FS G_Line_ask where
  pre := fun g => m_Line_ask g.a1 g.a0_0 g.a0_1 = some g.out
  preG := fun _ _ => True
  args := fun g => A_Line_ask W g.p0 g.p0_1 g.a1 g.a0_0 g.a0_1
  cells := fun g => D_Line_ask W g.p0 g.p0_1 g.a1 g.a0_0 g.a0_1
  res := fun g => R_Line_ask W g.out
  cells' := fun g => C_Line_ask W g.p0 g.p0_1 g.a1 g.a0_0 g.a0_1 g.out
structure G_Line_ask_1 where
  p0 : PySem.Addr
  p0_1 : PySem.Addr
  a1 : (Int × Int)
  a0_0 : Int
  a0_1 : (List (Int × Int))
  out : ((PySem.Str × (Option (Int × Int))) × (List (Int × Int)))
abbrev R_Line_ask_1 {K : PySem.W.Frag} {mg : Str → Option Value} (W : Wd K mg) (r : ((PySem.Str × (Option (Int × Int))) × (List (Int × Int)))) : J.Slot := (J.Slot.val (r.1 : (PySem.Str × (Option (Int × Int)))))
abbrev C_Line_ask_1 {K : PySem.W.Frag} {mg : Str → Option Value} (W : Wd K mg) (p0 : PySem.Addr) (p0_1 : PySem.Addr) (a1 : (Int × Int)) (a0_0 : Int) (a0_1 : (List (Int × Int))) (r : ((PySem.Str × (Option (Int × Int))) × (List (Int × Int)))) : List (PySem.Addr × J.Cel) := [(p0, (J.Cel.ins W.C_Line [(("line_room" : PySem.Str), (J.Slot.val (a0_0 : Int))), (("line_pages" : PySem.Str), (J.Slot.v (.ref p0_1))), (("is_moved" : PySem.Str), (J.Slot.val (true : Bool)))])), (p0_1, (J.Cel.lst ((r.2 : List (Int × Int)).map J.Slot.val)))]
abbrev A_Line_ask_1 {K : PySem.W.Frag} {mg : Str → Option Value} (W : Wd K mg) (p0 : PySem.Addr) (p0_1 : PySem.Addr) (a1 : (Int × Int)) (a0_0 : Int) (a0_1 : (List (Int × Int))) : List J.Slot := [(J.Slot.v (.ref p0)), (J.Slot.val (a1 : (Int × Int)))]
abbrev D_Line_ask_1 {K : PySem.W.Frag} {mg : Str → Option Value} (W : Wd K mg) (p0 : PySem.Addr) (p0_1 : PySem.Addr) (a1 : (Int × Int)) (a0_0 : Int) (a0_1 : (List (Int × Int))) : List (PySem.Addr × J.Cel) := [(p0, (J.Cel.ins W.C_Line [(("line_room" : PySem.Str), (J.Slot.val (a0_0 : Int))), (("line_pages" : PySem.Str), (J.Slot.v (.ref p0_1))), (("is_moved" : PySem.Str), (J.Slot.val (true : Bool)))])), (p0_1, (J.Cel.lst ((a0_1 : List (Int × Int)).map J.Slot.val)))]
def F_Line_ask_1 {K : PySem.W.Frag} {mg : Str → Option Value} (W : Wd K mg)  : J.FS G_Line_ask_1 where
  pre := fun g => m_Line_ask_1 g.a1 g.a0_0 g.a0_1 = some g.out
  preG := fun _ _ => True
  args := fun g => A_Line_ask_1 W g.p0 g.p0_1 g.a1 g.a0_0 g.a0_1
  cells := fun g => D_Line_ask_1 W g.p0 g.p0_1 g.a1 g.a0_0 g.a0_1
  res := fun g => R_Line_ask_1 W g.out
  cells' := fun g => C_Line_ask_1 W g.p0 g.p0_1 g.a1 g.a0_0 g.a0_1 g.out
theorem ok_Line_ask_1 (W : Wd K mg) : FnOk P w K mg base CX0 1 W.a_Line_ask W.d_Line_ask ["self", "page"] (F_Line_ask_1 (W)).sp := by
  refine J.fn_okD (F_Line_ask_1 (W)) W.F_Line_ask sc_Line_ask (fun g => rfl) (fun g => by intro s hs; simp only [F_Line_ask_1, List.mem_cons, List.not_mem_nil, or_false] at hs; rcases hs with rfl | rfl <;> first | rfl | exact J.xsl_plain) (fun cdv A outer s H E hr B g h hG => ?_)
  have hN := (sc_Line_ask).nd
  obtain ⟨p0, p0_1, a1, a0_0, a0_1, r0⟩ := g
  change m_Line_ask_1 a1 a0_0 a0_1 = some r0 at h
  unfold m_Line_ask_1 at h
  change J.JS _ B (⟨[(J.Slot.v (.ref p0)), (J.Slot.val (a1 : (Int × Int))), J.Slot.any], [(p0, (J.Cel.ins W.C_Line [(("line_room" : PySem.Str), (J.Slot.val (a0_0 : Int))), (("line_pages" : PySem.Str), (J.Slot.v (.ref p0_1))), (("is_moved" : PySem.Str), (J.Slot.val (true : Bool)))])), (p0_1, (J.Cel.lst ((a0_1 : List (Int × Int)).map J.Slot.val)))]⟩ : J.Stt) _ (J.fend B (F_Line_ask_1 (W)) ⟨p0, p0_1, a1, a0_0, a0_1, r0⟩)
  refine J.js_if (J.jt_in (t := (a1 : (Int × Int))) (xs := a0_1) hr (J.je_var 1 rfl) (J.je_fget 0 W.cl_Line W.na_Line_line_pages (J.je_var 0 rfl) rfl rfl) J.dv_val (J.lv_cell' 1 rfl)) (fun hp => ?_) (fun hp => ?_)
  · replace h := J.ifT hp h
    refine J.js_if (J.jt_bl (J.je_fget 0 W.cl_Line W.na_Line_is_moved (J.je_var 0 rfl) rfl rfl)) (fun hp => ?_) (fun hp => absurd hp (by decide))
    obtain ⟨x1, hx1, h⟩ := J.bndE h
    refine J.js_expr (J.je_remG (xs := a0_1) (t := (a1 : (Int × Int))) 1 hr (J.je_fget 0 W.cl_Line W.na_Line_line_pages (J.je_var 0 rfl) rfl rfl) rfl (J.je_var 1 rfl) rfl hx1) ?_
    obtain ⟨x2, hx2, h⟩ := J.bndE h
    refine J.js_expr (J.je_appG (xs := x1) (t := (a1 : (Int × Int))) 1 (J.je_fget 0 W.cl_Line W.na_Line_line_pages (J.je_var 0 rfl) rfl rfl) rfl (J.je_var 1 rfl) rfl hx2) ?_
    refine J.js_end ?_
    change J.JS _ _ (⟨[(J.Slot.v (.ref p0)), (J.Slot.val (a1 : (Int × Int))), J.Slot.any], [(p0, (J.Cel.ins W.C_Line [(("line_room" : PySem.Str), (J.Slot.val (a0_0 : Int))), (("line_pages" : PySem.Str), (J.Slot.v (.ref p0_1))), (("is_moved" : PySem.Str), (J.Slot.val (true : Bool)))])), (p0_1, (J.Cel.lst ((x2 : List (Int × Int)).map J.Slot.val)))]⟩ : J.Stt) _ _
    have h9 := Option.some.inj h
    subst h9
    exact J.js_ret (J.je_tup (t := ((("hit" : PySem.Str), (none : Option (Int × Int))) : (PySem.Str × (Option (Int × Int))))) (J.ja_cons J.je_str (J.ja_cons (J.je_nonO (α := (Int × Int)) J.je_non) J.ja_nil)) (J.SlDs.cons J.sld_val (J.SlDs.cons J.sld_val J.SlDs.nil)) rfl (Nat.le_of_ble_eq_true rfl)) fun v H o => J.Out.take 2 o
  · replace h := J.ifF hp h
    refine J.js_end ?_
    change J.JS _ _ (⟨[(J.Slot.v (.ref p0)), (J.Slot.val (a1 : (Int × Int))), J.Slot.any], [(p0, (J.Cel.ins W.C_Line [(("line_room" : PySem.Str), (J.Slot.val (a0_0 : Int))), (("line_pages" : PySem.Str), (J.Slot.v (.ref p0_1))), (("is_moved" : PySem.Str), (J.Slot.val (true : Bool)))])), (p0_1, (J.Cel.lst ((a0_1 : List (Int × Int)).map J.Slot.val)))]⟩ : J.Stt) _ _
    refine J.js_set (hN := hN) 2 (J.je_nonO (α := (Int × Int)) J.je_non) ?_
    obtain ⟨s3, hs3, h⟩ := J.bndE h
    refine J.js_ifE (π := Unit) (Sq := fun (q4 : Unit) => (⟨[(J.Slot.v (.ref p0)), (J.Slot.val (a1 : (Int × Int))), (J.Slot.val (s3.2 : (Option (Int × Int))))], [(p0, (J.Cel.ins W.C_Line [(("line_room" : PySem.Str), (J.Slot.val (a0_0 : Int))), (("line_pages" : PySem.Str), (J.Slot.v (.ref p0_1))), (("is_moved" : PySem.Str), (J.Slot.val (true : Bool)))])), (p0_1, (J.Cel.lst ((s3.1 : List (Int × Int)).map J.Slot.val)))]⟩ : J.Stt)) (J.jt_eq' (t := (((a0_1).length : Int) : Int)) (r := (a0_0 : Int)) hr (J.je_len (n := "len") (xs := a0_1) W.l_len (J.je_fget 0 W.cl_Line W.na_Line_line_pages (J.je_var 0 rfl) rfl rfl) (J.lv_cell' 1 rfl)) (J.je_fget 0 W.cl_Line W.na_Line_line_room (J.je_var 0 rfl) rfl rfl) J.dv_val J.dv_val) (fun hp => ?_) (fun hp => ?_) (fun q4 => ?_)
    · have h := J.ifT hp hs3
      obtain ⟨x5, hx5, h⟩ := J.bndE h
      refine J.js_set (hN := hN) 2 (J.je_some (J.je_popG (xs := a0_1) 1 (J.je_fget 0 W.cl_Line W.na_Line_line_pages (J.je_var 0 rfl) rfl rfl) rfl J.je_int rfl hx5)) ?_
      have h9 := Option.some.inj h
      subst h9
      exact J.js_loopEnd (Sq := fun (q4 : Unit) (s3 : ((List (Int × Int)) × (Option (Int × Int)))) => (⟨[(J.Slot.v (.ref p0)), (J.Slot.val (a1 : (Int × Int))), (J.Slot.val (s3.2 : (Option (Int × Int))))], [(p0, (J.Cel.ins W.C_Line [(("line_room" : PySem.Str), (J.Slot.val (a0_0 : Int))), (("line_pages" : PySem.Str), (J.Slot.v (.ref p0_1))), (("is_moved" : PySem.Str), (J.Slot.val (true : Bool)))])), (p0_1, (J.Cel.lst ((s3.1 : List (Int × Int)).map J.Slot.val)))]⟩ : J.Stt)) (s' := (x5.2, (some x5.1))) 2 () (.keep (.keep (.keep .nil))) rfl rfl
    · have h := J.ifF hp hs3
      have h9 := Option.some.inj h
      subst h9
      exact J.js_loopEnd (Sq := fun (q4 : Unit) (s3 : ((List (Int × Int)) × (Option (Int × Int)))) => (⟨[(J.Slot.v (.ref p0)), (J.Slot.val (a1 : (Int × Int))), (J.Slot.val (s3.2 : (Option (Int × Int))))], [(p0, (J.Cel.ins W.C_Line [(("line_room" : PySem.Str), (J.Slot.val (a0_0 : Int))), (("line_pages" : PySem.Str), (J.Slot.v (.ref p0_1))), (("is_moved" : PySem.Str), (J.Slot.val (true : Bool)))])), (p0_1, (J.Cel.lst ((s3.1 : List (Int × Int)).map J.Slot.val)))]⟩ : J.Stt)) (s' := (a0_1, none)) 2 () (.keep (.keep (.keep .nil))) rfl rfl
    obtain ⟨x6, hx6, h⟩ := J.bndE h
    refine J.js_expr (J.je_appG (xs := s3.1) (t := (a1 : (Int × Int))) 1 (J.je_fget 0 W.cl_Line W.na_Line_line_pages (J.je_var 0 rfl) rfl rfl) rfl (J.je_var 1 rfl) rfl hx6) ?_
    have h9 := Option.some.inj h
    subst h9
    exact J.js_ret (J.je_tup (t := ((("fault" : PySem.Str), s3.2) : (PySem.Str × (Option (Int × Int))))) (J.ja_cons J.je_str (J.ja_cons (J.je_var 2 rfl) J.ja_nil)) (J.SlDs.cons J.sld_val (J.SlDs.cons J.sld_val J.SlDs.nil)) rfl (Nat.le_of_ble_eq_true rfl)) fun v H o => J.Out.take 2 o
structure G_Room_ask where
  p0 : PySem.Addr
  p0_0 : PySem.Addr
  p0_0_1 : PySem.Addr
  a1 : (Int × Int)
  a0_0_0 : Int
  a0_0_1 : (List (Int × Int))
  out : ((PySem.Str × (Option (Int × Int))) × (List (Int × Int)))
abbrev R_Room_ask {K : PySem.W.Frag} {mg : Str → Option Value} (W : Wd K mg) (r : ((PySem.Str × (Option (Int × Int))) × (List (Int × Int)))) : J.Slot := (J.Slot.val (r.1 : (PySem.Str × (Option (Int × Int)))))
abbrev C_Room_ask {K : PySem.W.Frag} {mg : Str → Option Value} (W : Wd K mg) (p0 : PySem.Addr) (p0_0 : PySem.Addr) (p0_0_1 : PySem.Addr) (a1 : (Int × Int)) (a0_0_0 : Int) (a0_0_1 : (List (Int × Int))) (r : ((PySem.Str × (Option (Int × Int))) × (List (Int × Int)))) : List (PySem.Addr × J.Cel) := [(p0, (J.Cel.ins W.C_Room [(("keeper" : PySem.Str), (J.Slot.v (.ref p0_0)))])), (p0_0, (J.Cel.ins W.C_Line [(("line_room" : PySem.Str), (J.Slot.val (a0_0_0 : Int))), (("line_pages" : PySem.Str), (J.Slot.v (.ref p0_0_1))), (("is_moved" : PySem.Str), (J.Slot.val (true : Bool)))])), (p0_0_1, (J.Cel.lst ((r.2 : List (Int × Int)).map J.Slot.val)))]
abbrev A_Room_ask {K : PySem.W.Frag} {mg : Str → Option Value} (W : Wd K mg) (p0 : PySem.Addr) (p0_0 : PySem.Addr) (p0_0_1 : PySem.Addr) (a1 : (Int × Int)) (a0_0_0 : Int) (a0_0_1 : (List (Int × Int))) : List J.Slot := [(J.Slot.v (.ref p0)), (J.Slot.val (a1 : (Int × Int)))]
abbrev D_Room_ask {K : PySem.W.Frag} {mg : Str → Option Value} (W : Wd K mg) (p0 : PySem.Addr) (p0_0 : PySem.Addr) (p0_0_1 : PySem.Addr) (a1 : (Int × Int)) (a0_0_0 : Int) (a0_0_1 : (List (Int × Int))) : List (PySem.Addr × J.Cel) := [(p0, (J.Cel.ins W.C_Room [(("keeper" : PySem.Str), (J.Slot.v (.ref p0_0)))])), (p0_0, (J.Cel.ins W.C_Line [(("line_room" : PySem.Str), (J.Slot.val (a0_0_0 : Int))), (("line_pages" : PySem.Str), (J.Slot.v (.ref p0_0_1))), (("is_moved" : PySem.Str), (J.Slot.val (true : Bool)))])), (p0_0_1, (J.Cel.lst ((a0_0_1 : List (Int × Int)).map J.Slot.val)))]
def F_Room_ask {K : PySem.W.Frag} {mg : Str → Option Value} (W : Wd K mg)  : J.FS G_Room_ask where
  pre := fun g => m_Room_ask g.a1 g.a0_0_0 g.a0_0_1 = some g.out
  preG := fun _ _ => True
  args := fun g => A_Room_ask W g.p0 g.p0_0 g.p0_0_1 g.a1 g.a0_0_0 g.a0_0_1
  cells := fun g => D_Room_ask W g.p0 g.p0_0 g.p0_0_1 g.a1 g.a0_0_0 g.a0_0_1
  res := fun g => R_Room_ask W g.out
  cells' := fun g => C_Room_ask W g.p0 g.p0_0 g.p0_0_1 g.a1 g.a0_0_0 g.a0_0_1 g.out
structure G_Room_ask_1 where
  p0 : PySem.Addr
  p0_0 : PySem.Addr
  p0_0_1 : PySem.Addr
  a1 : (Int × Int)
  a0_0_0 : Int
  a0_0_1 : (List (Int × Int))
  out : ((PySem.Str × (Option (Int × Int))) × (List (Int × Int)))
abbrev R_Room_ask_1 {K : PySem.W.Frag} {mg : Str → Option Value} (W : Wd K mg) (r : ((PySem.Str × (Option (Int × Int))) × (List (Int × Int)))) : J.Slot := (J.Slot.val (r.1 : (PySem.Str × (Option (Int × Int)))))
abbrev C_Room_ask_1 {K : PySem.W.Frag} {mg : Str → Option Value} (W : Wd K mg) (p0 : PySem.Addr) (p0_0 : PySem.Addr) (p0_0_1 : PySem.Addr) (a1 : (Int × Int)) (a0_0_0 : Int) (a0_0_1 : (List (Int × Int))) (r : ((PySem.Str × (Option (Int × Int))) × (List (Int × Int)))) : List (PySem.Addr × J.Cel) := [(p0, (J.Cel.ins W.C_Room [(("keeper" : PySem.Str), (J.Slot.v (.ref p0_0)))])), (p0_0, (J.Cel.ins W.C_Line [(("line_room" : PySem.Str), (J.Slot.val (a0_0_0 : Int))), (("line_pages" : PySem.Str), (J.Slot.v (.ref p0_0_1))), (("is_moved" : PySem.Str), (J.Slot.val (true : Bool)))])), (p0_0_1, (J.Cel.lst ((r.2 : List (Int × Int)).map J.Slot.val)))]
abbrev A_Room_ask_1 {K : PySem.W.Frag} {mg : Str → Option Value} (W : Wd K mg) (p0 : PySem.Addr) (p0_0 : PySem.Addr) (p0_0_1 : PySem.Addr) (a1 : (Int × Int)) (a0_0_0 : Int) (a0_0_1 : (List (Int × Int))) : List J.Slot := [(J.Slot.v (.ref p0)), (J.Slot.val (a1 : (Int × Int)))]
abbrev D_Room_ask_1 {K : PySem.W.Frag} {mg : Str → Option Value} (W : Wd K mg) (p0 : PySem.Addr) (p0_0 : PySem.Addr) (p0_0_1 : PySem.Addr) (a1 : (Int × Int)) (a0_0_0 : Int) (a0_0_1 : (List (Int × Int))) : List (PySem.Addr × J.Cel) := [(p0, (J.Cel.ins W.C_Room [(("keeper" : PySem.Str), (J.Slot.v (.ref p0_0)))])), (p0_0, (J.Cel.ins W.C_Line [(("line_room" : PySem.Str), (J.Slot.val (a0_0_0 : Int))), (("line_pages" : PySem.Str), (J.Slot.v (.ref p0_0_1))), (("is_moved" : PySem.Str), (J.Slot.val (true : Bool)))])), (p0_0_1, (J.Cel.lst ((a0_0_1 : List (Int × Int)).map J.Slot.val)))]
def F_Room_ask_1 {K : PySem.W.Frag} {mg : Str → Option Value} (W : Wd K mg)  : J.FS G_Room_ask_1 where
  pre := fun g => m_Room_ask_1 g.a1 g.a0_0_0 g.a0_0_1 = some g.out
  preG := fun _ _ => True
  args := fun g => A_Room_ask_1 W g.p0 g.p0_0 g.p0_0_1 g.a1 g.a0_0_0 g.a0_0_1
  cells := fun g => D_Room_ask_1 W g.p0 g.p0_0 g.p0_0_1 g.a1 g.a0_0_0 g.a0_0_1
  res := fun g => R_Room_ask_1 W g.out
  cells' := fun g => C_Room_ask_1 W g.p0 g.p0_0 g.p0_0_1 g.a1 g.a0_0_0 g.a0_0_1 g.out
theorem ok_Room_ask_1 (W : Wd K mg) : FnOk P w K mg base CX0 2 W.a_Room_ask W.d_Room_ask ["self", "page"] (F_Room_ask_1 (W)).sp := by
  refine J.fn_okD (F_Room_ask_1 (W)) W.F_Room_ask sc_Room_ask (fun g => rfl) (fun g => by intro s hs; simp only [F_Room_ask_1, List.mem_cons, List.not_mem_nil, or_false] at hs; rcases hs with rfl | rfl <;> first | rfl | exact J.xsl_plain) (fun cdv A outer s H E hr B g h hG => ?_)
  have hN := (sc_Room_ask).nd
  obtain ⟨p0, p0_0, p0_0_1, a1, a0_0_0, a0_0_1, r0⟩ := g
  change m_Room_ask_1 a1 a0_0_0 a0_0_1 = some r0 at h
  unfold m_Room_ask_1 at h
  change J.JS _ B (⟨[(J.Slot.v (.ref p0)), (J.Slot.val (a1 : (Int × Int)))], [(p0, (J.Cel.ins W.C_Room [(("keeper" : PySem.Str), (J.Slot.v (.ref p0_0)))])), (p0_0, (J.Cel.ins W.C_Line [(("line_room" : PySem.Str), (J.Slot.val (a0_0_0 : Int))), (("line_pages" : PySem.Str), (J.Slot.v (.ref p0_0_1))), (("is_moved" : PySem.Str), (J.Slot.val (true : Bool)))])), (p0_0_1, (J.Cel.lst ((a0_0_1 : List (Int × Int)).map J.Slot.val)))]⟩ : J.Stt) _ (J.fend B (F_Room_ask_1 (W)) ⟨p0, p0_0, p0_0_1, a1, a0_0_0, a0_0_1, r0⟩)
  obtain ⟨x1, hx1, h⟩ := J.bndE h
  have h9 := Option.some.inj h
  subst h9
  exact J.js_ret (J.je_mth (fr := F_Line_ask_1 W) 1 W.cl_Line W.m_Line_ask (ok_Line_ask_1 W) hr (by decide) W.b_Line_ask (J.je_fget 0 W.cl_Room W.na_Room_keeper (J.je_var 0 rfl) rfl rfl) rfl rfl (J.ja_cons (J.je_var 1 rfl) J.ja_nil) (g := (⟨p0_0, p0_0_1, a1, a0_0_0, a0_0_1, x1⟩ : G_Line_ask_1)) hx1 rfl (.cons 1 rfl (by nofun) (.cons 2 rfl (by nofun) .nil)) (.cons 1 rfl (.cons 2 rfl .nil)) (hG := fun G e => trivial)) fun v H o => J.Out.take 3 o
structure G_loose where
  a0 : (List (List Int))
  a1 : Int
  a2 : Int
  out : (List (PySem.W.T4 PySem.Str Int Int (Option (Int × Int))))
abbrev R_loose (r : (List (PySem.W.T4 PySem.Str Int Int (Option (Int × Int))))) : J.Slot := (J.Slot.own (J.Cel.lst ((r : List (PySem.W.T4 PySem.Str Int Int (Option (Int × Int)))).map J.Slot.val)))
abbrev C_loose (a0 : (List (List Int))) (a1 : Int) (a2 : Int) (r : (List (PySem.W.T4 PySem.Str Int Int (Option (Int × Int))))) : List (PySem.Addr × J.Cel) := []
abbrev A_loose (a0 : (List (List Int))) (a1 : Int) (a2 : Int) : List J.Slot := [(J.Slot.val (a0 : (List (List Int)))), (J.Slot.val (a1 : Int)), (J.Slot.val (a2 : Int))]
abbrev D_loose (a0 : (List (List Int))) (a1 : Int) (a2 : Int) : List (PySem.Addr × J.Cel) := []
def F_loose (K : PySem.W.Frag) : J.FS G_loose where
  pre := fun g => m_loose g.a0 g.a1 g.a2 = some g.out
  preG := fun _ _ => True
  args := fun g => A_loose g.a0 g.a1 g.a2
  cells := fun g => D_loose g.a0 g.a1 g.a2
  res := fun g => R_loose g.out
  cells' := fun g => C_loose g.a0 g.a1 g.a2 g.out
theorem ok_loose (W : Wd K mg) : FnOk P w K mg base CX0 5 W.a_loose W.d_loose ["traces", "frames", "turn"] (F_loose K).sp := by
  refine J.fn_okD (F_loose K) W.F_loose sc_loose (fun g => rfl) (fun g => by intro s hs; simp only [F_loose, List.mem_cons, List.not_mem_nil, or_false] at hs; rcases hs with rfl | rfl | rfl <;> first | rfl | exact J.xsl_plain) (fun cdv A outer s H E hr B g h hG => ?_)
  have hN := (sc_loose).nd
  obtain ⟨a0, a1, a2, r0⟩ := g
  change m_loose a0 a1 a2 = some r0 at h
  unfold m_loose at h
  change J.JS _ B (⟨[(J.Slot.val (a0 : (List (List Int)))), (J.Slot.val (a1 : Int)), (J.Slot.val (a2 : Int)), J.Slot.any, J.Slot.any, J.Slot.any, J.Slot.any, J.Slot.any, J.Slot.any], []⟩ : J.Stt) _ (J.fend B (F_loose K) ⟨a0, a1, a2, r0⟩)
  obtain ⟨x1, hx1, h⟩ := J.bndE h
  refine J.js_expr (J.je_call (f := F_need_room K) (ok_need_room W) hr (by decide) W.g_need_room W.F_need_room.kp W.b_need_room (J.ja_cons (J.je_var 1 rfl) J.ja_nil) (g := (⟨a1, x1⟩ : G_need_room)) hx1 rfl .nil .nil (hG := fun G e => trivial)) ?_
  change J.JS _ _ (⟨[(J.Slot.val (a0 : (List (List Int)))), (J.Slot.val (a1 : Int)), (J.Slot.val (a2 : Int)), J.Slot.any, J.Slot.any, J.Slot.any, J.Slot.any, J.Slot.any, J.Slot.any], []⟩ : J.Stt) _ _
  refine J.js_if (J.jt_lt (J.je_var 2 rfl) J.je_int) (fun hp => ?_) (fun hp => ?_)
  · replace h := J.ifT hp h
    exact nomatch h
  · replace h := J.ifF hp h
    refine J.js_end ?_
    change J.JS _ _ (⟨[(J.Slot.val (a0 : (List (List Int)))), (J.Slot.val (a1 : Int)), (J.Slot.val (a2 : Int)), J.Slot.any, J.Slot.any, J.Slot.any, J.Slot.any, J.Slot.any, J.Slot.any], []⟩ : J.Stt) _ _
    obtain ⟨x2, hx2, h⟩ := J.bndE h
    refine J.js_new (hN := hN) 3 (J.je_mk (fr := F_Room_init W) (fs' := [(("keeper" : PySem.Str), (J.Slot.own (J.Cel.ins W.C_Line [(("line_room" : PySem.Str), (J.Slot.val (x2.1 : Int))), (("line_pages" : PySem.Str), (J.Slot.own (J.Cel.lst ((x2.2 : List (Int × Int)).map J.Slot.val)))), (("is_moved" : PySem.Str), (J.Slot.val (true : Bool)))])))]) W.k_Room_init (ok_Room_init W) hr (by decide) W.gC_Room W.b_Room_init (J.ja_cons (J.je_var 1 rfl) (J.ja_cons (J.je_globS W.gS_RULE) J.ja_nil)) (fun p9 => (⟨p9, a1, x2⟩ : G_Room_init)) (fun _ => hx2) (fun _ => rfl) (fun _ => rfl) (fun _ => rfl) (fun _ => rfl)) fun p3 => ?_
    refine J.js_open 0 0 rfl rfl fun p4 => ?_
    refine J.js_open 1 1 rfl rfl fun p5 => ?_
    refine J.js_new (hN := hN) 4 (J.je_lstv (xs := ([] : List (PySem.W.T4 PySem.Str Int Int (Option (Int × Int))))) J.ja_nil) fun p6 => ?_
    obtain ⟨x7, hx7, h⟩ := J.bndE h
    obtain ⟨s13, hs13, h⟩ := J.bndE h
    refine J.js_forE (π := Unit) (f := m_loose_b0 x2) (Sf := fun (q9 : Unit) (s8 : ((List (Int × Int)) × (List (PySem.W.T4 PySem.Str Int Int (Option (Int × Int)))))) => (⟨[(J.Slot.val (a0 : (List (List Int)))), (J.Slot.val (a1 : Int)), (J.Slot.val (a2 : Int)), (J.Slot.v (.ref p3)), (J.Slot.v (.ref p6)), J.Slot.any, J.Slot.any, J.Slot.any, J.Slot.any], [(p3, (J.Cel.ins W.C_Room [(("keeper" : PySem.Str), (J.Slot.v (.ref p4)))])), (p4, (J.Cel.ins W.C_Line [(("line_room" : PySem.Str), (J.Slot.val (x2.1 : Int))), (("line_pages" : PySem.Str), (J.Slot.v (.ref p5))), (("is_moved" : PySem.Str), (J.Slot.val (true : Bool)))])), (p5, (J.Cel.lst ((s8.1 : List (Int × Int)).map J.Slot.val))), (p6, (J.Cel.lst ((s8.2 : List (PySem.W.T4 PySem.Str Int Int (Option (Int × Int)))).map J.Slot.val)))]⟩ : J.Stt)) (Sb := fun (q9 : Unit) (s8 : ((List (Int × Int)) × (List (PySem.W.T4 PySem.Str Int Int (Option (Int × Int)))))) (x10 : (Int × Int)) => (⟨[(J.Slot.val (a0 : (List (List Int)))), (J.Slot.val (a1 : Int)), (J.Slot.val (a2 : Int)), (J.Slot.v (.ref p3)), (J.Slot.v (.ref p6)), (J.Slot.val (x10.1 : Int)), (J.Slot.val (x10.2 : Int)), J.Slot.any, J.Slot.any], [(p3, (J.Cel.ins W.C_Room [(("keeper" : PySem.Str), (J.Slot.v (.ref p4)))])), (p4, (J.Cel.ins W.C_Line [(("line_room" : PySem.Str), (J.Slot.val (x2.1 : Int))), (("line_pages" : PySem.Str), (J.Slot.v (.ref p5))), (("is_moved" : PySem.Str), (J.Slot.val (true : Bool)))])), (p5, (J.Cel.lst ((s8.1 : List (Int × Int)).map J.Slot.val))), (p6, (J.Cel.lst ((s8.2 : List (PySem.W.T4 PySem.Str Int Int (Option (Int × Int)))).map J.Slot.val)))]⟩ : J.Stt)) hs13 (J.ji_own (xs := x7) (J.je_call (f := F_by_rounds K) (ok_by_rounds W) hr (by decide) W.g_by_rounds W.F_by_rounds.kp W.b_by_rounds (J.ja_cons (J.je_var 0 rfl) (J.ja_cons (J.je_var 2 rfl) J.ja_nil)) (g := (⟨a0, a2, x7⟩ : G_by_rounds)) hx7 rfl .nil .nil (hG := fun G e => trivial))) (fun _ _ _ _ g => ⟨(), J.le_fgt (sl := [(J.Slot.val (a0 : (List (List Int)))), (J.Slot.val (a1 : Int)), (J.Slot.val (a2 : Int)), (J.Slot.v (.ref p3)), (J.Slot.v (.ref p6)), J.Slot.any, J.Slot.any, J.Slot.any, J.Slot.any]) (cs := [(p3, (J.Cel.ins W.C_Room [(("keeper" : PySem.Str), (J.Slot.v (.ref p4)))])), (p4, (J.Cel.ins W.C_Line [(("line_room" : PySem.Str), (J.Slot.val (x2.1 : Int))), (("line_pages" : PySem.Str), (J.Slot.v (.ref p5))), (("is_moved" : PySem.Str), (J.Slot.val (true : Bool)))])), (p5, (J.Cel.lst (((x2.2, ([] : List (PySem.W.T4 PySem.Str Int Int (Option (Int × Int))))).1 : List (Int × Int)).map J.Slot.val))), (p6, (J.Cel.lst (((x2.2, ([] : List (PySem.W.T4 PySem.Str Int Int (Option (Int × Int))))).2 : List (PySem.W.T4 PySem.Str Int Int (Option (Int × Int)))).map J.Slot.val)))]) 4 (.keep (.keep (.keep (.keep (.keep (.drop (.drop (.drop (.drop .nil))))))))) rfl _ _ _ _ g⟩) (fun _ _ => trivial) (fun q9 s8 x10 => (J.jg_pair (J.jgs_cons (J.jg_name 5 (hN := hN)) (J.jgs_cons (J.jg_name 6 (hN := hN)) J.jgs_nil)))) (fun q9 s8 x10 sY _ h => ?_) (fun q9 => ?_)
    · unfold m_loose_b0 at h
      change J.JS _ _ (⟨[(J.Slot.val (a0 : (List (List Int)))), (J.Slot.val (a1 : Int)), (J.Slot.val (a2 : Int)), (J.Slot.v (.ref p3)), (J.Slot.v (.ref p6)), (J.Slot.val (x10.1 : Int)), (J.Slot.val (x10.2 : Int)), J.Slot.any, J.Slot.any], [(p3, (J.Cel.ins W.C_Room [(("keeper" : PySem.Str), (J.Slot.v (.ref p4)))])), (p4, (J.Cel.ins W.C_Line [(("line_room" : PySem.Str), (J.Slot.val (x2.1 : Int))), (("line_pages" : PySem.Str), (J.Slot.v (.ref p5))), (("is_moved" : PySem.Str), (J.Slot.val (true : Bool)))])), (p5, (J.Cel.lst ((s8.1 : List (Int × Int)).map J.Slot.val))), (p6, (J.Cel.lst ((s8.2 : List (PySem.W.T4 PySem.Str Int Int (Option (Int × Int)))).map J.Slot.val)))]⟩ : J.Stt) _ _
      obtain ⟨x11, hx11, h⟩ := J.bndE h
      refine J.js_asg (J.je_mth (fr := F_Room_ask_1 W) 0 W.cl_Room W.m_Room_ask (ok_Room_ask_1 W) hr (by decide) W.b_Room_ask (J.je_var 3 rfl) rfl rfl (J.ja_cons (J.je_tup (t := ((x10.1, x10.2) : (Int × Int))) (J.ja_cons (J.je_var 5 rfl) (J.ja_cons (J.je_var 6 rfl) J.ja_nil)) (J.SlDs.cons J.sld_val (J.SlDs.cons J.sld_val J.SlDs.nil)) rfl (Nat.le_of_ble_eq_true rfl)) J.ja_nil) (g := (⟨p3, p4, p5, (x10.1, x10.2), x2.1, s8.1, x11⟩ : G_Room_ask_1)) hx11 rfl (.cons 0 rfl (by nofun) (.cons 1 rfl (by nofun) (.cons 2 rfl (by nofun) .nil))) (.cons 0 rfl (.cons 1 rfl (.cons 2 rfl .nil))) (hG := fun G e => trivial)) (J.jg_pair (J.jgs_cons (J.jg_name 7 (hN := hN)) (J.jgs_cons (J.jg_name 8 (hN := hN)) J.jgs_nil))) ?_
      change J.JS _ _ (⟨[(J.Slot.val (a0 : (List (List Int)))), (J.Slot.val (a1 : Int)), (J.Slot.val (a2 : Int)), (J.Slot.v (.ref p3)), (J.Slot.v (.ref p6)), (J.Slot.val (x10.1 : Int)), (J.Slot.val (x10.2 : Int)), (J.Slot.val (x11.1.1 : PySem.Str)), (J.Slot.val (x11.1.2 : (Option (Int × Int))))], [(p3, (J.Cel.ins W.C_Room [(("keeper" : PySem.Str), (J.Slot.v (.ref p4)))])), (p4, (J.Cel.ins W.C_Line [(("line_room" : PySem.Str), (J.Slot.val (x2.1 : Int))), (("line_pages" : PySem.Str), (J.Slot.v (.ref p5))), (("is_moved" : PySem.Str), (J.Slot.val (true : Bool)))])), (p5, (J.Cel.lst ((x11.2 : List (Int × Int)).map J.Slot.val))), (p6, (J.Cel.lst ((s8.2 : List (PySem.W.T4 PySem.Str Int Int (Option (Int × Int)))).map J.Slot.val)))]⟩ : J.Stt) _ _
      obtain ⟨x12, hx12, h⟩ := J.bndE h
      refine J.js_expr (J.je_appG (xs := s8.2) (t := ((PySem.W.T4.mk x11.1.1 x10.1 x10.2 x11.1.2) : (PySem.W.T4 PySem.Str Int Int (Option (Int × Int))))) 3 (J.je_var 4 rfl) rfl (J.je_tup (t := ((PySem.W.T4.mk x11.1.1 x10.1 x10.2 x11.1.2) : (PySem.W.T4 PySem.Str Int Int (Option (Int × Int))))) (J.ja_cons (J.je_var 7 rfl) (J.ja_cons (J.je_var 5 rfl) (J.ja_cons (J.je_var 6 rfl) (J.ja_cons (J.je_var 8 rfl) J.ja_nil)))) (J.SlDs.cons J.sld_val (J.SlDs.cons J.sld_val (J.SlDs.cons J.sld_val (J.SlDs.cons J.sld_val J.SlDs.nil)))) rfl (Nat.le_of_ble_eq_true rfl)) rfl hx12) ?_
      have h9 := Option.some.inj h
      subst h9
      exact J.js_nil fun T tv σ H g => ⟨(), J.le_fgt (sl := [(J.Slot.val (a0 : (List (List Int)))), (J.Slot.val (a1 : Int)), (J.Slot.val (a2 : Int)), (J.Slot.v (.ref p3)), (J.Slot.v (.ref p6)), J.Slot.any, J.Slot.any, J.Slot.any, J.Slot.any]) (cs := [(p3, (J.Cel.ins W.C_Room [(("keeper" : PySem.Str), (J.Slot.v (.ref p4)))])), (p4, (J.Cel.ins W.C_Line [(("line_room" : PySem.Str), (J.Slot.val (x2.1 : Int))), (("line_pages" : PySem.Str), (J.Slot.v (.ref p5))), (("is_moved" : PySem.Str), (J.Slot.val (true : Bool)))])), (p5, (J.Cel.lst (((x11.2, x12).1 : List (Int × Int)).map J.Slot.val))), (p6, (J.Cel.lst (((x11.2, x12).2 : List (PySem.W.T4 PySem.Str Int Int (Option (Int × Int)))).map J.Slot.val)))]) 4 (.keep (.keep (.keep (.keep (.keep (.drop (.drop (.drop (.drop .nil))))))))) rfl _ _ _ _ g⟩
    change J.JS _ _ (⟨[(J.Slot.val (a0 : (List (List Int)))), (J.Slot.val (a1 : Int)), (J.Slot.val (a2 : Int)), (J.Slot.v (.ref p3)), (J.Slot.v (.ref p6)), J.Slot.any, J.Slot.any, J.Slot.any, J.Slot.any], [(p3, (J.Cel.ins W.C_Room [(("keeper" : PySem.Str), (J.Slot.v (.ref p4)))])), (p4, (J.Cel.ins W.C_Line [(("line_room" : PySem.Str), (J.Slot.val (x2.1 : Int))), (("line_pages" : PySem.Str), (J.Slot.v (.ref p5))), (("is_moved" : PySem.Str), (J.Slot.val (true : Bool)))])), (p5, (J.Cel.lst ((s13.1 : List (Int × Int)).map J.Slot.val))), (p6, (J.Cel.lst ((s13.2 : List (PySem.W.T4 PySem.Str Int Int (Option (Int × Int)))).map J.Slot.val)))]⟩ : J.Stt) _ _
    have h9 := Option.some.inj h
    subst h9
    exact J.js_ret (J.je_own 3 (J.je_var 4 rfl) rfl) fun v H o => J.Out.take 0 o
structure G_law where
  p0 : PySem.Addr
  a0 : List Int
  out : Bool
abbrev R_law (r : Bool) : J.Slot := (J.Slot.val (r : Bool))
abbrev C_law (p0 : PySem.Addr) (a0 : List Int) (r : Bool) : List (PySem.Addr × J.Cel) := []
abbrev A_law (p0 : PySem.Addr) (a0 : List Int) : List J.Slot := [(J.Slot.v (.ref p0))]
abbrev D_law (p0 : PySem.Addr) (a0 : List Int) : List (PySem.Addr × J.Cel) := []
def F_law (K : PySem.W.Frag) : J.FS G_law where
  pre := fun g => m_law g.a0 = some g.out
  preG := fun g G => L2.SqL K G g.p0 (g.a0.map V.int)
  args := fun g => A_law g.p0 g.a0
  cells := fun g => D_law g.p0 g.a0
  res := fun g => R_law g.out
  cells' := fun g => C_law g.p0 g.a0 g.out
theorem ok_law (W : Wd K mg) : J.FnG P w K mg base CX0 6 W.a_law W.d_law ["script"] (F_law K).sp := by
  refine J.fn_okG (F_law K) W.F_law sc_law (fun g => rfl) (fun g => by intro s hs; simp only [F_law, List.mem_cons, List.not_mem_nil, or_false] at hs; rcases hs with rfl <;> first | rfl | exact J.xsl_plain) (fun cdv A outer s H E hgd hr B g h hG => ?_)
  have hN := (sc_law).nd
  obtain ⟨p0, a0, r0⟩ := g
  change m_law a0 = some r0 at h
  unfold m_law at h
  change J.JS _ B (⟨[(J.Slot.v (.ref p0)), J.Slot.any, J.Slot.any, J.Slot.any, J.Slot.any, J.Slot.any, J.Slot.any, J.Slot.any, J.Slot.any, J.Slot.any, J.Slot.any], []⟩ : J.Stt) _ (J.fend B (F_law K) ⟨p0, a0, r0⟩)
  obtain ⟨x1, hx1, h⟩ := J.bndE h
  refine J.js_new (hN := hN) 1 (J.je_call (f := F_law_bag K) (ok_law_bag W) hr (by decide) W.g__law_bag W.F__law_bag.kp W.b__law_bag (J.ja_cons (J.je_var 0 rfl) J.ja_nil) (g := (⟨p0, a0, x1⟩ : G_law_bag)) hx1 rfl .nil .nil (hG := fun G e => J.sql_mono hG e)) fun p2 => ?_
  refine J.js_open 0 0 rfl rfl fun p3 => ?_
  change J.JS _ _ (⟨[(J.Slot.v (.ref p0)), (J.Slot.v (.ref p2)), J.Slot.any, J.Slot.any, J.Slot.any, J.Slot.any, J.Slot.any, J.Slot.any, J.Slot.any, J.Slot.any, J.Slot.any], [(p2, (J.Cel.lst [(J.Slot.v (.ref p3)), (J.Slot.val (x1.2.1 : Int)), (J.Slot.val (x1.2.2 : Int))])), (p3, (J.Cel.lst ((x1.1 : List Int).map J.Slot.val)))]⟩ : J.Stt) _ _
  obtain ⟨x4, hx4, h⟩ := J.bndE h
  obtain ⟨x11, hx11, h⟩ := J.bndE h
  refine J.js_newLc 2 (f := m_law_c0 x1) (el := (fun (y9 : (PySem.W.T3 (List (List Int)) Int Int)) => J.Slot.otup (J.Slot.own (J.mlC J.intsC y9.a) :: [(J.Slot.val (y9.b : Int)), (J.Slot.val (y9.c : Int))]))) (Sf := fun (s5 : (Int × (List Int))) => (⟨[(J.Slot.v (.ref p0)), (J.Slot.v (.ref p2)), J.Slot.any, J.Slot.any, J.Slot.any, J.Slot.any, J.Slot.any, J.Slot.any, J.Slot.any, J.Slot.any, J.Slot.any], [(p2, (J.Cel.lst [(J.Slot.v (.ref p3)), (J.Slot.val (x1.2.1 : Int)), (J.Slot.val (s5.1 : Int))])), (p3, (J.Cel.lst ((s5.2 : List Int).map J.Slot.val)))]⟩ : J.Stt)) (Sb := fun (s5 : (Int × (List Int))) (x7 : Int) => (⟨[(J.Slot.v (.ref p0)), (J.Slot.v (.ref p2)), J.Slot.any, J.Slot.any, (J.Slot.val (x7 : Int)), J.Slot.any, J.Slot.any, J.Slot.any, J.Slot.any, J.Slot.any, J.Slot.any], [(p2, (J.Cel.lst [(J.Slot.v (.ref p3)), (J.Slot.val (x1.2.1 : Int)), (J.Slot.val (s5.1 : Int))])), (p3, (J.Cel.lst ((s5.2 : List Int).map J.Slot.val)))]⟩ : J.Stt)) (s0 := (x1.2.2, x1.1)) (own := [(("k" : PySem.Str), 4)]) (ws := [4]) (J.lcM_of hx11).2 (J.lcM_of hx11).1 hN (L2.blkOk_by (N := ["script", "bag", "sides", "kept", "k", "line", "due", "found", "lot", "many", "size"]) (sc := defScope s_law) (by decide +kernel)) (J.ji_rngG W.l_range J.je_int hx4) (J.le_fgt 2 (.keep (.keep (.drop (.drop (.drop (.drop (.drop (.drop (.drop (.drop (.drop .nil))))))))))) rfl) (fun _ => trivial) (fun _ => J.any_at rfl) (by decide) (fun s5 x7 => fun s1 H1 C1 cl1 fp1 =>  J.inJG hN fun hN => (J.jg_name 4 (hN := hN))) (fun s5 x7 o sZ _ h => by
      unfold m_law_c0 at h
      obtain ⟨x8, hx8, h⟩ := J.bndE h
      obtain ⟨x9, hx9, h⟩ := J.bndE h
      obtain ⟨x10, hx10, h⟩ := J.bndE h
      obtain ⟨h8, h9⟩ := Prod.mk.inj (Option.some.inj h)
      subst h8
      subst h9
      exact ⟨true, _, (fun s1 H1 C1 cl1 fp1 =>  J.jts_nil), fun _ => ⟨_, _, rfl, (fun s1 H1 C1 cl1 fp1 =>  J.inJE hr hN fun hr hN => (J.je_otup (J.ja_cons (J.je_call (f := F_law_lot K) (ok_law_lot W) hr (by decide) W.g__law_lot W.F__law_lot.kp W.b__law_lot (J.ja_cons (J.je_var 1 rfl) J.ja_nil) (g := (⟨p2, p3, s5.2, x1.2.1, s5.1, x8⟩ : G_law_lot)) hx8 rfl (.cons 0 rfl (by nofun) (.cons 1 rfl (by nofun) .nil)) (.cons 0 rfl (.cons 1 rfl .nil)) (hG := fun G e => trivial)) (J.ja_cons (J.je_call (f := F_law_many K) (ok_law_many W) hr (by decide) W.g__law_many W.F__law_many.kp W.b__law_many (J.ja_cons (J.je_var 1 rfl) J.ja_nil) (g := (⟨p2, p3, x8.2.2, x1.2.1, x8.2.1, x9⟩ : G_law_many)) hx9 rfl (.cons 0 rfl (by nofun) (.cons 1 rfl (by nofun) .nil)) (.cons 0 rfl (.cons 1 rfl .nil)) (hG := fun G e => trivial)) (J.ja_cons (J.je_call (f := F_law_size K) (ok_law_size W) hr (by decide) W.g__law_size W.F__law_size.kp W.b__law_size (J.ja_cons (J.je_var 1 rfl) J.ja_nil) (g := (⟨p2, p3, x9.2.2, x1.2.1, x9.2.1, x10⟩ : G_law_size)) hx10 rfl (.cons 0 rfl (by nofun) (.cons 1 rfl (by nofun) .nil)) (.cons 0 rfl (.cons 1 rfl .nil)) (hG := fun G e => trivial)) J.ja_nil))))), (J.le_fgt 2 (.keep (.keep (.drop (.drop (.drop (.drop (.drop (.drop (.drop (.drop (.drop .nil))))))))))) rfl)⟩, nofun⟩) fun p12 => ?_
  change J.JS _ _ (⟨[(J.Slot.v (.ref p0)), (J.Slot.v (.ref p2)), (J.Slot.v (.ref p12)), J.Slot.any, J.Slot.any, J.Slot.any, J.Slot.any, J.Slot.any, J.Slot.any, J.Slot.any, J.Slot.any], [(p2, (J.Cel.lst [(J.Slot.v (.ref p3)), (J.Slot.val (x1.2.1 : Int)), (J.Slot.val (x11.2.1 : Int))])), (p3, (J.Cel.lst ((x11.2.2 : List Int).map J.Slot.val))), (p12, (J.Cel.lst ((x11.1 : List (PySem.W.T3 (List (List Int)) Int Int)).map (fun (y9 : (PySem.W.T3 (List (List Int)) Int Int)) => J.Slot.otup (J.Slot.own (J.mlC J.intsC y9.a) :: [(J.Slot.val (y9.b : Int)), (J.Slot.val (y9.c : Int))])))))]⟩ : J.Stt) _ _
  obtain ⟨x13, hx13, h⟩ := J.bndE h
  refine J.js_open2 (cf := fun (y9 : (PySem.W.T3 (List (List Int)) Int Int)) => (J.mlC J.intsC y9.a)) (tf := fun (y9 : (PySem.W.T3 (List (List Int)) Int Int)) => [(J.Slot.val (y9.b : Int)), (J.Slot.val (y9.c : Int))]) 2 hx13 rfl (fun y s hs => by simp only [List.mem_cons, List.not_mem_nil, or_false] at hs; first | (rw [hs]; rfl) | (rcases hs with rfl | rfl <;> rfl)) fun p14 p15 => ?_
  change J.JS _ _ (⟨[(J.Slot.v (.ref p0)), (J.Slot.v (.ref p2)), (J.Slot.v (.ref p12)), J.Slot.any, J.Slot.any, J.Slot.any, J.Slot.any, J.Slot.any, J.Slot.any, J.Slot.any, J.Slot.any], [(p2, (J.Cel.lst [(J.Slot.v (.ref p3)), (J.Slot.val (x1.2.1 : Int)), (J.Slot.val (x11.2.1 : Int))])), (p3, (J.Cel.lst ((x11.2.2 : List Int).map J.Slot.val))), (p12, (J.Cel.lst [J.Slot.say (J.Td p14 [(J.Slot.val (x13.1.b : Int)), (J.Slot.val (x13.1.c : Int))]), J.Slot.say (J.Td p15 [(J.Slot.val (x13.2.b : Int)), (J.Slot.val (x13.2.c : Int))])])), (p14, (J.mlC J.intsC (x13.1.a : List (List Int)))), (p15, (J.mlC J.intsC (x13.2.a : List (List Int))))]⟩ : J.Stt) _ _
  obtain ⟨x16, hx16, h⟩ := J.bndE h
  refine J.js_set (hN := hN) 3 (J.je_lendS (t := (x16 : PySem.Str)) 2 3 4 2 rfl rfl rfl rfl (J.flat_str _) (fun B9 => (J.je_repr hgd hr W.l_repr (J.je_var 2 rfl) J.rw_val hx16))) ?_
  obtain ⟨o63, ho63, h⟩ := J.bndE h
  refine J.js_forLE (π := Unit) (Rr := fun r => J.Out B (R_law r) (C_law p0 a0 r)) (f := m_law_b1 x13 x16) (Sf := fun (q18 : Unit) (s17 : Unit) => (⟨[(J.Slot.v (.ref p0)), (J.Slot.v (.ref p2)), (J.Slot.v (.ref p12)), (J.Slot.val (x16 : PySem.Str)), J.Slot.any, J.Slot.any, J.Slot.any, J.Slot.any, J.Slot.any, J.Slot.any, J.Slot.any], [(p2, (J.Cel.lst [(J.Slot.v (.ref p3)), (J.Slot.val (x1.2.1 : Int)), (J.Slot.val (x11.2.1 : Int))])), (p3, (J.Cel.lst ((x11.2.2 : List Int).map J.Slot.val))), (p12, (J.Cel.lst [J.Slot.say (J.Td p14 [(J.Slot.val (x13.1.b : Int)), (J.Slot.val (x13.1.c : Int))]), J.Slot.say (J.Td p15 [(J.Slot.val (x13.2.b : Int)), (J.Slot.val (x13.2.c : Int))])])), (p14, (J.mlC J.intsC (x13.1.a : List (List Int)))), (p15, (J.mlC J.intsC (x13.2.a : List (List Int))))]⟩ : J.Stt)) (Sb := fun (q18 : Unit) (s17 : Unit) (x19 : Int) => (⟨[(J.Slot.v (.ref p0)), (J.Slot.v (.ref p2)), (J.Slot.v (.ref p12)), (J.Slot.val (x16 : PySem.Str)), (J.Slot.val (x19 : Int)), J.Slot.any, J.Slot.any, J.Slot.any, J.Slot.any, J.Slot.any, J.Slot.any], [(p2, (J.Cel.lst [(J.Slot.v (.ref p3)), (J.Slot.val (x1.2.1 : Int)), (J.Slot.val (x11.2.1 : Int))])), (p3, (J.Cel.lst ((x11.2.2 : List Int).map J.Slot.val))), (p12, (J.Cel.lst [J.Slot.say (J.Td p14 [(J.Slot.val (x13.1.b : Int)), (J.Slot.val (x13.1.c : Int))]), J.Slot.say (J.Td p15 [(J.Slot.val (x13.2.b : Int)), (J.Slot.val (x13.2.c : Int))])])), (p14, (J.mlC J.intsC (x13.1.a : List (List Int)))), (p15, (J.mlC J.intsC (x13.2.a : List (List Int))))]⟩ : J.Stt)) ho63 (J.ji_tupv (t := (PySem.W.Tup.mk ([0, 1, 0] : List Int))) (J.je_tupv (xs := ([0, 1, 0] : List Int)) (J.ja_cons J.je_int (J.ja_cons J.je_int (J.ja_cons J.je_int J.ja_nil))))) (fun _ _ _ _ g => ⟨(), J.le_fgt (sl := [(J.Slot.v (.ref p0)), (J.Slot.v (.ref p2)), (J.Slot.v (.ref p12)), (J.Slot.val (x16 : PySem.Str)), J.Slot.any, J.Slot.any, J.Slot.any, J.Slot.any, J.Slot.any, J.Slot.any, J.Slot.any]) (cs := [(p2, (J.Cel.lst [(J.Slot.v (.ref p3)), (J.Slot.val (x1.2.1 : Int)), (J.Slot.val (x11.2.1 : Int))])), (p3, (J.Cel.lst ((x11.2.2 : List Int).map J.Slot.val))), (p12, (J.Cel.lst [J.Slot.say (J.Td p14 [(J.Slot.val (x13.1.b : Int)), (J.Slot.val (x13.1.c : Int))]), J.Slot.say (J.Td p15 [(J.Slot.val (x13.2.b : Int)), (J.Slot.val (x13.2.c : Int))])])), (p14, (J.mlC J.intsC (x13.1.a : List (List Int)))), (p15, (J.mlC J.intsC (x13.2.a : List (List Int))))]) 5 (.keep (.keep (.keep (.keep (.drop (.drop (.drop (.drop (.drop (.drop (.drop .nil))))))))))) rfl _ _ _ _ g⟩) (fun _ _ => trivial) (fun q18 s17 x19 => (J.jg_name 4 (hN := hN))) (fun q18 s17 x19 o9 hm h => ?_) (fun r e v H hv => by subst e; cases h; exact hv) (fun s62 e q18 => ?_)
  · simp only [List.mem_cons, List.not_mem_nil, or_false] at hm
    rcases hm with rfl | rfl | rfl
    · unfold m_law_b1 at h
      rw [if_pos (show decide ((0 : Int) = (0 : Int)) = true by decide)] at h
      change J.JS _ _ (⟨[(J.Slot.v (.ref p0)), (J.Slot.v (.ref p2)), (J.Slot.v (.ref p12)), (J.Slot.val (x16 : PySem.Str)), (J.Slot.val (0 : Int)), J.Slot.any, J.Slot.any, J.Slot.any, J.Slot.any, J.Slot.any, J.Slot.any], [(p2, (J.Cel.lst [(J.Slot.v (.ref p3)), (J.Slot.val (x1.2.1 : Int)), (J.Slot.val (x11.2.1 : Int))])), (p3, (J.Cel.lst ((x11.2.2 : List Int).map J.Slot.val))), (p12, (J.Cel.lst [J.Slot.say (J.Td p14 [(J.Slot.val (x13.1.b : Int)), (J.Slot.val (x13.1.c : Int))]), J.Slot.say (J.Td p15 [(J.Slot.val (x13.2.b : Int)), (J.Slot.val (x13.2.c : Int))])])), (p14, (J.mlC J.intsC (x13.1.a : List (List Int)))), (p15, (J.mlC J.intsC (x13.2.a : List (List Int))))]⟩ : J.Stt) _ _
      refine J.js_asg (J.je_ix (s := J.Slot.say (J.Td p14 [(J.Slot.val (x13.1.b : Int)), (J.Slot.val (x13.1.c : Int))])) (J.je_var 2 rfl) (J.je_var 4 rfl) (J.lv_cell 2 rfl J.say2) rfl) (J.jg_td (J.jgs_cons (J.jg_name 8 (hN := hN)) (J.jgs_cons (J.jg_name 9 (hN := hN)) (J.jgs_cons (J.jg_name 10 (hN := hN)) J.jgs_nil)))) ?_
      change J.JS _ _ (⟨[(J.Slot.v (.ref p0)), (J.Slot.v (.ref p2)), (J.Slot.v (.ref p12)), (J.Slot.val (x16 : PySem.Str)), (J.Slot.val (0 : Int)), J.Slot.any, J.Slot.any, J.Slot.any, (J.Slot.v (.ref p14)), (J.Slot.val (x13.1.b : Int)), (J.Slot.val (x13.1.c : Int))], [(p2, (J.Cel.lst [(J.Slot.v (.ref p3)), (J.Slot.val (x1.2.1 : Int)), (J.Slot.val (x11.2.1 : Int))])), (p3, (J.Cel.lst ((x11.2.2 : List Int).map J.Slot.val))), (p12, (J.Cel.lst [J.Slot.say (J.Td p14 [(J.Slot.val (x13.1.b : Int)), (J.Slot.val (x13.1.c : Int))]), J.Slot.say (J.Td p15 [(J.Slot.val (x13.2.b : Int)), (J.Slot.val (x13.2.c : Int))])])), (p14, (J.mlC J.intsC (x13.1.a : List (List Int)))), (p15, (J.mlC J.intsC (x13.2.a : List (List Int))))]⟩ : J.Stt) _ _
      obtain ⟨x20, hx20, h⟩ := J.bndE h
      refine J.js_set (hN := hN) 6 (J.je_frL (J.je_lendL (ts := (x20 : (List (PySem.W.T4 PySem.Str Int Int (Option (Int × Int)))))) 3 8 rfl rfl J.low_ev (fun B9 => (J.je_call (f := F_law_due K) (ok_law_due W) hr (by decide) W.g__law_due W.F__law_due.kp W.b__law_due (J.ja_cons (J.je_var 8 rfl) (J.ja_cons (J.je_var 9 rfl) (J.ja_cons (J.je_var 10 rfl) J.ja_nil))) (g := (⟨x13.1.a, x13.1.b, x13.1.c, x20⟩ : G_law_due)) hx20 rfl .nil .nil (hG := fun G e => trivial))))) ?_
      change J.JS _ _ (⟨[(J.Slot.v (.ref p0)), (J.Slot.v (.ref p2)), (J.Slot.v (.ref p12)), (J.Slot.val (x16 : PySem.Str)), (J.Slot.val (0 : Int)), J.Slot.any, (J.Slot.val (x20 : (List (PySem.W.T4 PySem.Str Int Int (Option (Int × Int)))))), J.Slot.any, (J.Slot.v (.ref p14)), (J.Slot.val (x13.1.b : Int)), (J.Slot.val (x13.1.c : Int))], [(p2, (J.Cel.lst [(J.Slot.v (.ref p3)), (J.Slot.val (x1.2.1 : Int)), (J.Slot.val (x11.2.1 : Int))])), (p3, (J.Cel.lst ((x11.2.2 : List Int).map J.Slot.val))), (p12, (J.Cel.lst [J.Slot.say (J.Td p14 [(J.Slot.val (x13.1.b : Int)), (J.Slot.val (x13.1.c : Int))]), J.Slot.say (J.Td p15 [(J.Slot.val (x13.2.b : Int)), (J.Slot.val (x13.2.c : Int))])])), (p14, (J.mlC J.intsC (x13.1.a : List (List Int)))), (p15, (J.mlC J.intsC (x13.2.a : List (List Int))))]⟩ : J.Stt) _ _
      obtain ⟨x23, hx23, h⟩ := J.bndE h
      refine J.js_new (hN := hN) 7 (J.je_lendL (ts := (x23 : (List (PySem.W.T4 PySem.Str Int Int (Option (Int × Int)))))) 3 8 rfl rfl J.low_ev (fun B9 => (J.je_ifM (el := fun (z9 : (List (PySem.W.T4 PySem.Str Int Int (Option (Int × Int))))) => J.Slot.own (J.Cel.lst (z9.map J.Slot.val))) hx23 (J.jt_eq' (t := (x13.1.c : Int)) (r := (1 : Int)) hr (J.je_var 10 rfl) J.je_int J.dv_val J.dv_val) (fun _ r h => by
      obtain ⟨x21, hx21, h⟩ := J.bndE h
      have h9 := Option.some.inj h
      subst h9
      exact (J.je_callN (f := F_loose K) (ok_loose W) hr (by decide) W.g_loose W.F_loose.kp (kbe_loose_0 W) (J.ja_cons (J.je_var 8 rfl) (J.ja_cons (J.je_var 9 rfl) J.ja_nil)) J.jk_nil (g := (⟨x13.1.a, x13.1.b, 1, x21⟩ : G_loose)) hx21 rfl rfl (fun {T} {σ} {vs} {ws} {tv} {H} hl hl2 h => by
      match vs, ws, hl, hl2, h with
      | [v0, v1], [], _, _, h =>
        have h := J.Sta.push (x := J.Slot.val (1 : Int)) (v := (V.int 1)) h fun _ _ => J.sl_int _
        have h := J.Sta.rot (xs := [_, _]) (T := [] ++ T) (vs := [(V.int 1), v0]) (u := v1) (tv := [] ++ tv) rfl h
        have h := J.Sta.rot (xs := [_, _]) (T := [] ++ T) (vs := [v1, (V.int 1)]) (u := v0) (tv := [] ++ tv) rfl h
        exact ⟨rfl, h⟩) .nil .nil (hG := fun G e => trivial))) (fun _ r h => by
      obtain ⟨x22, hx22, h⟩ := J.bndE h
      have h9 := Option.some.inj h
      subst h9
      exact (J.je_callN (f := F_loose K) (ok_loose W) hr (by decide) W.g_loose W.F_loose.kp (kbe_loose_1 W) (J.ja_cons (J.je_var 8 rfl) (J.ja_cons (J.je_var 9 rfl) J.ja_nil)) (J.jk_cons (J.je_var 10 rfl) J.jk_nil) (g := (⟨x13.1.a, x13.1.b, x13.1.c, x22⟩ : G_loose)) hx22 rfl rfl (fun {T} {σ} {vs} {ws} {tv} {H} hl hl2 h => by
      match vs, ws, hl, hl2, h with
      | [v0, v1], [w0], _, _, h =>
        have h := J.Sta.rot (xs := [_, _]) (T := [] ++ T) (vs := [w0, v0]) (u := v1) (tv := [] ++ tv) rfl h
        have h := J.Sta.rot (xs := [_, _]) (T := [] ++ T) (vs := [v1, w0]) (u := v0) (tv := [] ++ tv) rfl h
        exact ⟨rfl, h⟩) .nil .nil (hG := fun G e => trivial)))))) fun p24 => ?_
      obtain ⟨x29, hx29, h⟩ := J.bndE h
      refine J.js_if (J.JW.t (J.jw_orM hx29 (J.jt_not (J.jt_bl (J.je_isiG (r := true) W.l_isinstance (J.je_var 7 rfl) (J.je_bty W.l_list PyProof.Rows.boot_list) (J.ty_lst (J.lh_cell 5 rfl))))) fun _ r h => by
      obtain ⟨x25, hx25, h⟩ := J.bndE h
      obtain ⟨x26, hx26, h⟩ := J.bndE h
      obtain ⟨x28, hx28, h⟩ := J.bndE h
      have h9 := Option.some.inj h
      subst h9
      exact (J.jw_orM hx28 (J.jt_ne' (t := (x25 : PySem.Str)) (r := (x26 : PySem.Str)) hr (J.je_reprC (xs := (x23 : List (PySem.W.T4 PySem.Str Int Int (Option (Int × Int))))) 5 hgd hr W.l_repr (J.je_var 7 rfl) rfl hx25) (J.je_repr hgd hr W.l_repr (J.je_var 6 rfl) J.rw_val hx26) J.dv_val J.dv_val) fun _ r h => by
      obtain ⟨x27, hx27, h⟩ := J.bndE h
      have h9 := Option.some.inj h
      subst h9
      exact (J.jw_or1 (J.jt_ne' (t := (x27 : PySem.Str)) (r := (x16 : PySem.Str)) hr (J.je_lendS (t := (x27 : PySem.Str)) 2 3 4 2 rfl rfl rfl rfl (J.flat_str _) (fun B9 => (J.je_repr hgd hr W.l_repr (J.je_var 2 rfl) J.rw_val hx27))) (J.je_var 3 rfl) J.dv_val J.dv_val))))) (fun hp => ?_) (fun hp => ?_)
      · replace h := J.ifT hp h
        have h9 := Option.some.inj h
        subst h9
        exact J.js_ret J.je_bl fun v H o => ⟨_, rfl, J.Out.take 0 o⟩
      · replace h := J.ifF hp h
        refine J.js_end ?_
        change J.JS _ _ (⟨[(J.Slot.v (.ref p0)), (J.Slot.v (.ref p2)), (J.Slot.v (.ref p12)), (J.Slot.val (x16 : PySem.Str)), (J.Slot.val (0 : Int)), J.Slot.any, (J.Slot.val (x20 : (List (PySem.W.T4 PySem.Str Int Int (Option (Int × Int)))))), (J.Slot.v (.ref p24)), (J.Slot.v (.ref p14)), (J.Slot.val (x13.1.b : Int)), (J.Slot.val (x13.1.c : Int))], [(p2, (J.Cel.lst [(J.Slot.v (.ref p3)), (J.Slot.val (x1.2.1 : Int)), (J.Slot.val (x11.2.1 : Int))])), (p3, (J.Cel.lst ((x11.2.2 : List Int).map J.Slot.val))), (p12, (J.Cel.lst [J.Slot.say (J.Td p14 [(J.Slot.val (x13.1.b : Int)), (J.Slot.val (x13.1.c : Int))]), J.Slot.say (J.Td p15 [(J.Slot.val (x13.2.b : Int)), (J.Slot.val (x13.2.c : Int))])])), (p14, (J.mlC J.intsC (x13.1.a : List (List Int)))), (p15, (J.mlC J.intsC (x13.2.a : List (List Int)))), (p24, (J.Cel.lst ((x23 : List (PySem.W.T4 PySem.Str Int Int (Option (Int × Int)))).map J.Slot.val)))]⟩ : J.Stt) _ _
        obtain ⟨x30, hx30, h⟩ := J.bndE h
        refine J.js_expr (J.je_appG (xs := x23) (t := ((PySem.W.T4.mk ("hit" : PySem.Str) 0 5 (none : Option (Int × Int))) : (PySem.W.T4 PySem.Str Int Int (Option (Int × Int))))) 5 (J.je_var 7 rfl) rfl (J.je_tup (t := ((PySem.W.T4.mk ("hit" : PySem.Str) 0 5 (none : Option (Int × Int))) : (PySem.W.T4 PySem.Str Int Int (Option (Int × Int))))) (J.ja_cons J.je_str (J.ja_cons J.je_int (J.ja_cons J.je_int (J.ja_cons (J.je_nonO (α := (Int × Int)) J.je_non) J.ja_nil)))) (J.SlDs.cons J.sld_val (J.SlDs.cons J.sld_val (J.SlDs.cons J.sld_val (J.SlDs.cons J.sld_val J.SlDs.nil)))) rfl (Nat.le_of_ble_eq_true rfl)) rfl hx30) ?_
        obtain ⟨x31, hx31, h⟩ := J.bndE h
        obtain ⟨x32, hx32, h⟩ := J.bndE h
        obtain ⟨x33, hx33, h⟩ := J.bndE h
        refine J.js_if (J.jt_ne' (t := (x32 : PySem.Str)) (r := (x33 : PySem.Str)) hr (J.je_lend (t := (x32 : PySem.Str)) 3 8 rfl rfl (J.flat_str _) (fun B9 => (J.je_repr hgd hr W.l_repr (J.je_frL (J.je_callKE (f := F_loose K) (ok_loose W) hr (by decide) W.g_loose W.F_loose.kp (kbe_loose_2 W) (J.jk_cons (J.je_var 10 rfl) (J.jk_cons (J.je_var 9 rfl) (J.jk_cons (J.je_var 8 rfl) J.jk_nil))) (g := (⟨x13.1.a, x13.1.b, x13.1.c, x31⟩ : G_loose)) hx31 rfl (fun {T} {σ} {vs} {tv} {H} hl h => by
      match vs, hl, h with
      | [w0, w1, w2], _, h =>
        have h := J.Sta.rot (xs := [_]) (T := [_] ++ T) (vs := [w0]) (u := w1) (tv := [w2] ++ tv) rfl h
        have h := J.Sta.rot (xs := [_, _]) (T := [] ++ T) (vs := [w1, w0]) (u := w2) (tv := [] ++ tv) rfl h
        exact ⟨rfl, h⟩) .nil .nil (hG := fun G e => trivial))) J.rw_val hx32))) (J.je_repr hgd hr W.l_repr (J.je_var 6 rfl) J.rw_val hx33) J.dv_val J.dv_val) (fun hp => ?_) (fun hp => ?_)
        · replace h := J.ifT hp h
          have h9 := Option.some.inj h
          subst h9
          exact J.js_ret J.je_bl fun v H o => ⟨_, rfl, J.Out.take 0 o⟩
        · replace h := J.ifF hp h
          refine J.js_end ?_
          change J.JS _ _ (⟨[(J.Slot.v (.ref p0)), (J.Slot.v (.ref p2)), (J.Slot.v (.ref p12)), (J.Slot.val (x16 : PySem.Str)), (J.Slot.val (0 : Int)), J.Slot.any, (J.Slot.val (x20 : (List (PySem.W.T4 PySem.Str Int Int (Option (Int × Int)))))), (J.Slot.v (.ref p24)), (J.Slot.v (.ref p14)), (J.Slot.val (x13.1.b : Int)), (J.Slot.val (x13.1.c : Int))], [(p2, (J.Cel.lst [(J.Slot.v (.ref p3)), (J.Slot.val (x1.2.1 : Int)), (J.Slot.val (x11.2.1 : Int))])), (p3, (J.Cel.lst ((x11.2.2 : List Int).map J.Slot.val))), (p12, (J.Cel.lst [J.Slot.say (J.Td p14 [(J.Slot.val (x13.1.b : Int)), (J.Slot.val (x13.1.c : Int))]), J.Slot.say (J.Td p15 [(J.Slot.val (x13.2.b : Int)), (J.Slot.val (x13.2.c : Int))])])), (p14, (J.mlC J.intsC (x13.1.a : List (List Int)))), (p15, (J.mlC J.intsC (x13.2.a : List (List Int)))), (p24, (J.Cel.lst ((x30 : List (PySem.W.T4 PySem.Str Int Int (Option (Int × Int)))).map J.Slot.val)))]⟩ : J.Stt) _ _
          have h9 := Option.some.inj h
          subst h9
          exact J.js_nil fun T tv σ H g => ⟨_, rfl, (), J.le_fgt (sl := [(J.Slot.v (.ref p0)), (J.Slot.v (.ref p2)), (J.Slot.v (.ref p12)), (J.Slot.val (x16 : PySem.Str)), J.Slot.any, J.Slot.any, J.Slot.any, J.Slot.any, J.Slot.any, J.Slot.any, J.Slot.any]) (cs := [(p2, (J.Cel.lst [(J.Slot.v (.ref p3)), (J.Slot.val (x1.2.1 : Int)), (J.Slot.val (x11.2.1 : Int))])), (p3, (J.Cel.lst ((x11.2.2 : List Int).map J.Slot.val))), (p12, (J.Cel.lst [J.Slot.say (J.Td p14 [(J.Slot.val (x13.1.b : Int)), (J.Slot.val (x13.1.c : Int))]), J.Slot.say (J.Td p15 [(J.Slot.val (x13.2.b : Int)), (J.Slot.val (x13.2.c : Int))])])), (p14, (J.mlC J.intsC (x13.1.a : List (List Int)))), (p15, (J.mlC J.intsC (x13.2.a : List (List Int))))]) 5 (.keep (.keep (.keep (.keep (.drop (.drop (.drop (.drop (.drop (.drop (.drop .nil))))))))))) rfl _ _ _ _ g⟩
    · unfold m_law_b1 at h
      rw [if_neg (show ¬ decide ((1 : Int) = (0 : Int)) = true by decide), if_pos (show decide ((1 : Int) = (1 : Int)) = true by decide)] at h
      change J.JS _ _ (⟨[(J.Slot.v (.ref p0)), (J.Slot.v (.ref p2)), (J.Slot.v (.ref p12)), (J.Slot.val (x16 : PySem.Str)), (J.Slot.val (1 : Int)), J.Slot.any, J.Slot.any, J.Slot.any, J.Slot.any, J.Slot.any, J.Slot.any], [(p2, (J.Cel.lst [(J.Slot.v (.ref p3)), (J.Slot.val (x1.2.1 : Int)), (J.Slot.val (x11.2.1 : Int))])), (p3, (J.Cel.lst ((x11.2.2 : List Int).map J.Slot.val))), (p12, (J.Cel.lst [J.Slot.say (J.Td p14 [(J.Slot.val (x13.1.b : Int)), (J.Slot.val (x13.1.c : Int))]), J.Slot.say (J.Td p15 [(J.Slot.val (x13.2.b : Int)), (J.Slot.val (x13.2.c : Int))])])), (p14, (J.mlC J.intsC (x13.1.a : List (List Int)))), (p15, (J.mlC J.intsC (x13.2.a : List (List Int))))]⟩ : J.Stt) _ _
      refine J.js_asg (J.je_ix (s := J.Slot.say (J.Td p15 [(J.Slot.val (x13.2.b : Int)), (J.Slot.val (x13.2.c : Int))])) (J.je_var 2 rfl) (J.je_var 4 rfl) (J.lv_cell 2 rfl J.say2) rfl) (J.jg_td (J.jgs_cons (J.jg_name 8 (hN := hN)) (J.jgs_cons (J.jg_name 9 (hN := hN)) (J.jgs_cons (J.jg_name 10 (hN := hN)) J.jgs_nil)))) ?_
      change J.JS _ _ (⟨[(J.Slot.v (.ref p0)), (J.Slot.v (.ref p2)), (J.Slot.v (.ref p12)), (J.Slot.val (x16 : PySem.Str)), (J.Slot.val (1 : Int)), J.Slot.any, J.Slot.any, J.Slot.any, (J.Slot.v (.ref p15)), (J.Slot.val (x13.2.b : Int)), (J.Slot.val (x13.2.c : Int))], [(p2, (J.Cel.lst [(J.Slot.v (.ref p3)), (J.Slot.val (x1.2.1 : Int)), (J.Slot.val (x11.2.1 : Int))])), (p3, (J.Cel.lst ((x11.2.2 : List Int).map J.Slot.val))), (p12, (J.Cel.lst [J.Slot.say (J.Td p14 [(J.Slot.val (x13.1.b : Int)), (J.Slot.val (x13.1.c : Int))]), J.Slot.say (J.Td p15 [(J.Slot.val (x13.2.b : Int)), (J.Slot.val (x13.2.c : Int))])])), (p14, (J.mlC J.intsC (x13.1.a : List (List Int)))), (p15, (J.mlC J.intsC (x13.2.a : List (List Int))))]⟩ : J.Stt) _ _
      obtain ⟨x34, hx34, h⟩ := J.bndE h
      refine J.js_set (hN := hN) 6 (J.je_frL (J.je_lendL (ts := (x34 : (List (PySem.W.T4 PySem.Str Int Int (Option (Int × Int)))))) 4 8 rfl rfl J.low_ev (fun B9 => (J.je_call (f := F_law_due K) (ok_law_due W) hr (by decide) W.g__law_due W.F__law_due.kp W.b__law_due (J.ja_cons (J.je_var 8 rfl) (J.ja_cons (J.je_var 9 rfl) (J.ja_cons (J.je_var 10 rfl) J.ja_nil))) (g := (⟨x13.2.a, x13.2.b, x13.2.c, x34⟩ : G_law_due)) hx34 rfl .nil .nil (hG := fun G e => trivial))))) ?_
      change J.JS _ _ (⟨[(J.Slot.v (.ref p0)), (J.Slot.v (.ref p2)), (J.Slot.v (.ref p12)), (J.Slot.val (x16 : PySem.Str)), (J.Slot.val (1 : Int)), J.Slot.any, (J.Slot.val (x34 : (List (PySem.W.T4 PySem.Str Int Int (Option (Int × Int)))))), J.Slot.any, (J.Slot.v (.ref p15)), (J.Slot.val (x13.2.b : Int)), (J.Slot.val (x13.2.c : Int))], [(p2, (J.Cel.lst [(J.Slot.v (.ref p3)), (J.Slot.val (x1.2.1 : Int)), (J.Slot.val (x11.2.1 : Int))])), (p3, (J.Cel.lst ((x11.2.2 : List Int).map J.Slot.val))), (p12, (J.Cel.lst [J.Slot.say (J.Td p14 [(J.Slot.val (x13.1.b : Int)), (J.Slot.val (x13.1.c : Int))]), J.Slot.say (J.Td p15 [(J.Slot.val (x13.2.b : Int)), (J.Slot.val (x13.2.c : Int))])])), (p14, (J.mlC J.intsC (x13.1.a : List (List Int)))), (p15, (J.mlC J.intsC (x13.2.a : List (List Int))))]⟩ : J.Stt) _ _
      obtain ⟨x37, hx37, h⟩ := J.bndE h
      refine J.js_new (hN := hN) 7 (J.je_lendL (ts := (x37 : (List (PySem.W.T4 PySem.Str Int Int (Option (Int × Int)))))) 4 8 rfl rfl J.low_ev (fun B9 => (J.je_ifM (el := fun (z9 : (List (PySem.W.T4 PySem.Str Int Int (Option (Int × Int))))) => J.Slot.own (J.Cel.lst (z9.map J.Slot.val))) hx37 (J.jt_eq' (t := (x13.2.c : Int)) (r := (1 : Int)) hr (J.je_var 10 rfl) J.je_int J.dv_val J.dv_val) (fun _ r h => by
      obtain ⟨x35, hx35, h⟩ := J.bndE h
      have h9 := Option.some.inj h
      subst h9
      exact (J.je_callN (f := F_loose K) (ok_loose W) hr (by decide) W.g_loose W.F_loose.kp (kbe_loose_0 W) (J.ja_cons (J.je_var 8 rfl) (J.ja_cons (J.je_var 9 rfl) J.ja_nil)) J.jk_nil (g := (⟨x13.2.a, x13.2.b, 1, x35⟩ : G_loose)) hx35 rfl rfl (fun {T} {σ} {vs} {ws} {tv} {H} hl hl2 h => by
      match vs, ws, hl, hl2, h with
      | [v0, v1], [], _, _, h =>
        have h := J.Sta.push (x := J.Slot.val (1 : Int)) (v := (V.int 1)) h fun _ _ => J.sl_int _
        have h := J.Sta.rot (xs := [_, _]) (T := [] ++ T) (vs := [(V.int 1), v0]) (u := v1) (tv := [] ++ tv) rfl h
        have h := J.Sta.rot (xs := [_, _]) (T := [] ++ T) (vs := [v1, (V.int 1)]) (u := v0) (tv := [] ++ tv) rfl h
        exact ⟨rfl, h⟩) .nil .nil (hG := fun G e => trivial))) (fun _ r h => by
      obtain ⟨x36, hx36, h⟩ := J.bndE h
      have h9 := Option.some.inj h
      subst h9
      exact (J.je_callN (f := F_loose K) (ok_loose W) hr (by decide) W.g_loose W.F_loose.kp (kbe_loose_1 W) (J.ja_cons (J.je_var 8 rfl) (J.ja_cons (J.je_var 9 rfl) J.ja_nil)) (J.jk_cons (J.je_var 10 rfl) J.jk_nil) (g := (⟨x13.2.a, x13.2.b, x13.2.c, x36⟩ : G_loose)) hx36 rfl rfl (fun {T} {σ} {vs} {ws} {tv} {H} hl hl2 h => by
      match vs, ws, hl, hl2, h with
      | [v0, v1], [w0], _, _, h =>
        have h := J.Sta.rot (xs := [_, _]) (T := [] ++ T) (vs := [w0, v0]) (u := v1) (tv := [] ++ tv) rfl h
        have h := J.Sta.rot (xs := [_, _]) (T := [] ++ T) (vs := [v1, w0]) (u := v0) (tv := [] ++ tv) rfl h
        exact ⟨rfl, h⟩) .nil .nil (hG := fun G e => trivial)))))) fun p38 => ?_
      obtain ⟨x43, hx43, h⟩ := J.bndE h
      refine J.js_if (J.JW.t (J.jw_orM hx43 (J.jt_not (J.jt_bl (J.je_isiG (r := true) W.l_isinstance (J.je_var 7 rfl) (J.je_bty W.l_list PyProof.Rows.boot_list) (J.ty_lst (J.lh_cell 5 rfl))))) fun _ r h => by
      obtain ⟨x39, hx39, h⟩ := J.bndE h
      obtain ⟨x40, hx40, h⟩ := J.bndE h
      obtain ⟨x42, hx42, h⟩ := J.bndE h
      have h9 := Option.some.inj h
      subst h9
      exact (J.jw_orM hx42 (J.jt_ne' (t := (x39 : PySem.Str)) (r := (x40 : PySem.Str)) hr (J.je_reprC (xs := (x37 : List (PySem.W.T4 PySem.Str Int Int (Option (Int × Int))))) 5 hgd hr W.l_repr (J.je_var 7 rfl) rfl hx39) (J.je_repr hgd hr W.l_repr (J.je_var 6 rfl) J.rw_val hx40) J.dv_val J.dv_val) fun _ r h => by
      obtain ⟨x41, hx41, h⟩ := J.bndE h
      have h9 := Option.some.inj h
      subst h9
      exact (J.jw_or1 (J.jt_ne' (t := (x41 : PySem.Str)) (r := (x16 : PySem.Str)) hr (J.je_lendS (t := (x41 : PySem.Str)) 2 3 4 2 rfl rfl rfl rfl (J.flat_str _) (fun B9 => (J.je_repr hgd hr W.l_repr (J.je_var 2 rfl) J.rw_val hx41))) (J.je_var 3 rfl) J.dv_val J.dv_val))))) (fun hp => ?_) (fun hp => ?_)
      · replace h := J.ifT hp h
        have h9 := Option.some.inj h
        subst h9
        exact J.js_ret J.je_bl fun v H o => ⟨_, rfl, J.Out.take 0 o⟩
      · replace h := J.ifF hp h
        refine J.js_end ?_
        change J.JS _ _ (⟨[(J.Slot.v (.ref p0)), (J.Slot.v (.ref p2)), (J.Slot.v (.ref p12)), (J.Slot.val (x16 : PySem.Str)), (J.Slot.val (1 : Int)), J.Slot.any, (J.Slot.val (x34 : (List (PySem.W.T4 PySem.Str Int Int (Option (Int × Int)))))), (J.Slot.v (.ref p38)), (J.Slot.v (.ref p15)), (J.Slot.val (x13.2.b : Int)), (J.Slot.val (x13.2.c : Int))], [(p2, (J.Cel.lst [(J.Slot.v (.ref p3)), (J.Slot.val (x1.2.1 : Int)), (J.Slot.val (x11.2.1 : Int))])), (p3, (J.Cel.lst ((x11.2.2 : List Int).map J.Slot.val))), (p12, (J.Cel.lst [J.Slot.say (J.Td p14 [(J.Slot.val (x13.1.b : Int)), (J.Slot.val (x13.1.c : Int))]), J.Slot.say (J.Td p15 [(J.Slot.val (x13.2.b : Int)), (J.Slot.val (x13.2.c : Int))])])), (p14, (J.mlC J.intsC (x13.1.a : List (List Int)))), (p15, (J.mlC J.intsC (x13.2.a : List (List Int)))), (p38, (J.Cel.lst ((x37 : List (PySem.W.T4 PySem.Str Int Int (Option (Int × Int)))).map J.Slot.val)))]⟩ : J.Stt) _ _
        obtain ⟨x44, hx44, h⟩ := J.bndE h
        refine J.js_expr (J.je_appG (xs := x37) (t := ((PySem.W.T4.mk ("hit" : PySem.Str) 0 5 (none : Option (Int × Int))) : (PySem.W.T4 PySem.Str Int Int (Option (Int × Int))))) 5 (J.je_var 7 rfl) rfl (J.je_tup (t := ((PySem.W.T4.mk ("hit" : PySem.Str) 0 5 (none : Option (Int × Int))) : (PySem.W.T4 PySem.Str Int Int (Option (Int × Int))))) (J.ja_cons J.je_str (J.ja_cons J.je_int (J.ja_cons J.je_int (J.ja_cons (J.je_nonO (α := (Int × Int)) J.je_non) J.ja_nil)))) (J.SlDs.cons J.sld_val (J.SlDs.cons J.sld_val (J.SlDs.cons J.sld_val (J.SlDs.cons J.sld_val J.SlDs.nil)))) rfl (Nat.le_of_ble_eq_true rfl)) rfl hx44) ?_
        obtain ⟨x45, hx45, h⟩ := J.bndE h
        obtain ⟨x46, hx46, h⟩ := J.bndE h
        obtain ⟨x47, hx47, h⟩ := J.bndE h
        refine J.js_if (J.jt_ne' (t := (x46 : PySem.Str)) (r := (x47 : PySem.Str)) hr (J.je_lend (t := (x46 : PySem.Str)) 4 8 rfl rfl (J.flat_str _) (fun B9 => (J.je_repr hgd hr W.l_repr (J.je_frL (J.je_callKE (f := F_loose K) (ok_loose W) hr (by decide) W.g_loose W.F_loose.kp (kbe_loose_2 W) (J.jk_cons (J.je_var 10 rfl) (J.jk_cons (J.je_var 9 rfl) (J.jk_cons (J.je_var 8 rfl) J.jk_nil))) (g := (⟨x13.2.a, x13.2.b, x13.2.c, x45⟩ : G_loose)) hx45 rfl (fun {T} {σ} {vs} {tv} {H} hl h => by
      match vs, hl, h with
      | [w0, w1, w2], _, h =>
        have h := J.Sta.rot (xs := [_]) (T := [_] ++ T) (vs := [w0]) (u := w1) (tv := [w2] ++ tv) rfl h
        have h := J.Sta.rot (xs := [_, _]) (T := [] ++ T) (vs := [w1, w0]) (u := w2) (tv := [] ++ tv) rfl h
        exact ⟨rfl, h⟩) .nil .nil (hG := fun G e => trivial))) J.rw_val hx46))) (J.je_repr hgd hr W.l_repr (J.je_var 6 rfl) J.rw_val hx47) J.dv_val J.dv_val) (fun hp => ?_) (fun hp => ?_)
        · replace h := J.ifT hp h
          have h9 := Option.some.inj h
          subst h9
          exact J.js_ret J.je_bl fun v H o => ⟨_, rfl, J.Out.take 0 o⟩
        · replace h := J.ifF hp h
          refine J.js_end ?_
          change J.JS _ _ (⟨[(J.Slot.v (.ref p0)), (J.Slot.v (.ref p2)), (J.Slot.v (.ref p12)), (J.Slot.val (x16 : PySem.Str)), (J.Slot.val (1 : Int)), J.Slot.any, (J.Slot.val (x34 : (List (PySem.W.T4 PySem.Str Int Int (Option (Int × Int)))))), (J.Slot.v (.ref p38)), (J.Slot.v (.ref p15)), (J.Slot.val (x13.2.b : Int)), (J.Slot.val (x13.2.c : Int))], [(p2, (J.Cel.lst [(J.Slot.v (.ref p3)), (J.Slot.val (x1.2.1 : Int)), (J.Slot.val (x11.2.1 : Int))])), (p3, (J.Cel.lst ((x11.2.2 : List Int).map J.Slot.val))), (p12, (J.Cel.lst [J.Slot.say (J.Td p14 [(J.Slot.val (x13.1.b : Int)), (J.Slot.val (x13.1.c : Int))]), J.Slot.say (J.Td p15 [(J.Slot.val (x13.2.b : Int)), (J.Slot.val (x13.2.c : Int))])])), (p14, (J.mlC J.intsC (x13.1.a : List (List Int)))), (p15, (J.mlC J.intsC (x13.2.a : List (List Int)))), (p38, (J.Cel.lst ((x44 : List (PySem.W.T4 PySem.Str Int Int (Option (Int × Int)))).map J.Slot.val)))]⟩ : J.Stt) _ _
          have h9 := Option.some.inj h
          subst h9
          exact J.js_nil fun T tv σ H g => ⟨_, rfl, (), J.le_fgt (sl := [(J.Slot.v (.ref p0)), (J.Slot.v (.ref p2)), (J.Slot.v (.ref p12)), (J.Slot.val (x16 : PySem.Str)), J.Slot.any, J.Slot.any, J.Slot.any, J.Slot.any, J.Slot.any, J.Slot.any, J.Slot.any]) (cs := [(p2, (J.Cel.lst [(J.Slot.v (.ref p3)), (J.Slot.val (x1.2.1 : Int)), (J.Slot.val (x11.2.1 : Int))])), (p3, (J.Cel.lst ((x11.2.2 : List Int).map J.Slot.val))), (p12, (J.Cel.lst [J.Slot.say (J.Td p14 [(J.Slot.val (x13.1.b : Int)), (J.Slot.val (x13.1.c : Int))]), J.Slot.say (J.Td p15 [(J.Slot.val (x13.2.b : Int)), (J.Slot.val (x13.2.c : Int))])])), (p14, (J.mlC J.intsC (x13.1.a : List (List Int)))), (p15, (J.mlC J.intsC (x13.2.a : List (List Int))))]) 5 (.keep (.keep (.keep (.keep (.drop (.drop (.drop (.drop (.drop (.drop (.drop .nil))))))))))) rfl _ _ _ _ g⟩
    · unfold m_law_b1 at h
      rw [if_pos (show decide ((0 : Int) = (0 : Int)) = true by decide)] at h
      change J.JS _ _ (⟨[(J.Slot.v (.ref p0)), (J.Slot.v (.ref p2)), (J.Slot.v (.ref p12)), (J.Slot.val (x16 : PySem.Str)), (J.Slot.val (0 : Int)), J.Slot.any, J.Slot.any, J.Slot.any, J.Slot.any, J.Slot.any, J.Slot.any], [(p2, (J.Cel.lst [(J.Slot.v (.ref p3)), (J.Slot.val (x1.2.1 : Int)), (J.Slot.val (x11.2.1 : Int))])), (p3, (J.Cel.lst ((x11.2.2 : List Int).map J.Slot.val))), (p12, (J.Cel.lst [J.Slot.say (J.Td p14 [(J.Slot.val (x13.1.b : Int)), (J.Slot.val (x13.1.c : Int))]), J.Slot.say (J.Td p15 [(J.Slot.val (x13.2.b : Int)), (J.Slot.val (x13.2.c : Int))])])), (p14, (J.mlC J.intsC (x13.1.a : List (List Int)))), (p15, (J.mlC J.intsC (x13.2.a : List (List Int))))]⟩ : J.Stt) _ _
      refine J.js_asg (J.je_ix (s := J.Slot.say (J.Td p14 [(J.Slot.val (x13.1.b : Int)), (J.Slot.val (x13.1.c : Int))])) (J.je_var 2 rfl) (J.je_var 4 rfl) (J.lv_cell 2 rfl J.say2) rfl) (J.jg_td (J.jgs_cons (J.jg_name 8 (hN := hN)) (J.jgs_cons (J.jg_name 9 (hN := hN)) (J.jgs_cons (J.jg_name 10 (hN := hN)) J.jgs_nil)))) ?_
      change J.JS _ _ (⟨[(J.Slot.v (.ref p0)), (J.Slot.v (.ref p2)), (J.Slot.v (.ref p12)), (J.Slot.val (x16 : PySem.Str)), (J.Slot.val (0 : Int)), J.Slot.any, J.Slot.any, J.Slot.any, (J.Slot.v (.ref p14)), (J.Slot.val (x13.1.b : Int)), (J.Slot.val (x13.1.c : Int))], [(p2, (J.Cel.lst [(J.Slot.v (.ref p3)), (J.Slot.val (x1.2.1 : Int)), (J.Slot.val (x11.2.1 : Int))])), (p3, (J.Cel.lst ((x11.2.2 : List Int).map J.Slot.val))), (p12, (J.Cel.lst [J.Slot.say (J.Td p14 [(J.Slot.val (x13.1.b : Int)), (J.Slot.val (x13.1.c : Int))]), J.Slot.say (J.Td p15 [(J.Slot.val (x13.2.b : Int)), (J.Slot.val (x13.2.c : Int))])])), (p14, (J.mlC J.intsC (x13.1.a : List (List Int)))), (p15, (J.mlC J.intsC (x13.2.a : List (List Int))))]⟩ : J.Stt) _ _
      obtain ⟨x48, hx48, h⟩ := J.bndE h
      refine J.js_set (hN := hN) 6 (J.je_frL (J.je_lendL (ts := (x48 : (List (PySem.W.T4 PySem.Str Int Int (Option (Int × Int)))))) 3 8 rfl rfl J.low_ev (fun B9 => (J.je_call (f := F_law_due K) (ok_law_due W) hr (by decide) W.g__law_due W.F__law_due.kp W.b__law_due (J.ja_cons (J.je_var 8 rfl) (J.ja_cons (J.je_var 9 rfl) (J.ja_cons (J.je_var 10 rfl) J.ja_nil))) (g := (⟨x13.1.a, x13.1.b, x13.1.c, x48⟩ : G_law_due)) hx48 rfl .nil .nil (hG := fun G e => trivial))))) ?_
      change J.JS _ _ (⟨[(J.Slot.v (.ref p0)), (J.Slot.v (.ref p2)), (J.Slot.v (.ref p12)), (J.Slot.val (x16 : PySem.Str)), (J.Slot.val (0 : Int)), J.Slot.any, (J.Slot.val (x48 : (List (PySem.W.T4 PySem.Str Int Int (Option (Int × Int)))))), J.Slot.any, (J.Slot.v (.ref p14)), (J.Slot.val (x13.1.b : Int)), (J.Slot.val (x13.1.c : Int))], [(p2, (J.Cel.lst [(J.Slot.v (.ref p3)), (J.Slot.val (x1.2.1 : Int)), (J.Slot.val (x11.2.1 : Int))])), (p3, (J.Cel.lst ((x11.2.2 : List Int).map J.Slot.val))), (p12, (J.Cel.lst [J.Slot.say (J.Td p14 [(J.Slot.val (x13.1.b : Int)), (J.Slot.val (x13.1.c : Int))]), J.Slot.say (J.Td p15 [(J.Slot.val (x13.2.b : Int)), (J.Slot.val (x13.2.c : Int))])])), (p14, (J.mlC J.intsC (x13.1.a : List (List Int)))), (p15, (J.mlC J.intsC (x13.2.a : List (List Int))))]⟩ : J.Stt) _ _
      obtain ⟨x51, hx51, h⟩ := J.bndE h
      refine J.js_new (hN := hN) 7 (J.je_lendL (ts := (x51 : (List (PySem.W.T4 PySem.Str Int Int (Option (Int × Int)))))) 3 8 rfl rfl J.low_ev (fun B9 => (J.je_ifM (el := fun (z9 : (List (PySem.W.T4 PySem.Str Int Int (Option (Int × Int))))) => J.Slot.own (J.Cel.lst (z9.map J.Slot.val))) hx51 (J.jt_eq' (t := (x13.1.c : Int)) (r := (1 : Int)) hr (J.je_var 10 rfl) J.je_int J.dv_val J.dv_val) (fun _ r h => by
      obtain ⟨x49, hx49, h⟩ := J.bndE h
      have h9 := Option.some.inj h
      subst h9
      exact (J.je_callN (f := F_loose K) (ok_loose W) hr (by decide) W.g_loose W.F_loose.kp (kbe_loose_0 W) (J.ja_cons (J.je_var 8 rfl) (J.ja_cons (J.je_var 9 rfl) J.ja_nil)) J.jk_nil (g := (⟨x13.1.a, x13.1.b, 1, x49⟩ : G_loose)) hx49 rfl rfl (fun {T} {σ} {vs} {ws} {tv} {H} hl hl2 h => by
      match vs, ws, hl, hl2, h with
      | [v0, v1], [], _, _, h =>
        have h := J.Sta.push (x := J.Slot.val (1 : Int)) (v := (V.int 1)) h fun _ _ => J.sl_int _
        have h := J.Sta.rot (xs := [_, _]) (T := [] ++ T) (vs := [(V.int 1), v0]) (u := v1) (tv := [] ++ tv) rfl h
        have h := J.Sta.rot (xs := [_, _]) (T := [] ++ T) (vs := [v1, (V.int 1)]) (u := v0) (tv := [] ++ tv) rfl h
        exact ⟨rfl, h⟩) .nil .nil (hG := fun G e => trivial))) (fun _ r h => by
      obtain ⟨x50, hx50, h⟩ := J.bndE h
      have h9 := Option.some.inj h
      subst h9
      exact (J.je_callN (f := F_loose K) (ok_loose W) hr (by decide) W.g_loose W.F_loose.kp (kbe_loose_1 W) (J.ja_cons (J.je_var 8 rfl) (J.ja_cons (J.je_var 9 rfl) J.ja_nil)) (J.jk_cons (J.je_var 10 rfl) J.jk_nil) (g := (⟨x13.1.a, x13.1.b, x13.1.c, x50⟩ : G_loose)) hx50 rfl rfl (fun {T} {σ} {vs} {ws} {tv} {H} hl hl2 h => by
      match vs, ws, hl, hl2, h with
      | [v0, v1], [w0], _, _, h =>
        have h := J.Sta.rot (xs := [_, _]) (T := [] ++ T) (vs := [w0, v0]) (u := v1) (tv := [] ++ tv) rfl h
        have h := J.Sta.rot (xs := [_, _]) (T := [] ++ T) (vs := [v1, w0]) (u := v0) (tv := [] ++ tv) rfl h
        exact ⟨rfl, h⟩) .nil .nil (hG := fun G e => trivial)))))) fun p52 => ?_
      obtain ⟨x57, hx57, h⟩ := J.bndE h
      refine J.js_if (J.JW.t (J.jw_orM hx57 (J.jt_not (J.jt_bl (J.je_isiG (r := true) W.l_isinstance (J.je_var 7 rfl) (J.je_bty W.l_list PyProof.Rows.boot_list) (J.ty_lst (J.lh_cell 5 rfl))))) fun _ r h => by
      obtain ⟨x53, hx53, h⟩ := J.bndE h
      obtain ⟨x54, hx54, h⟩ := J.bndE h
      obtain ⟨x56, hx56, h⟩ := J.bndE h
      have h9 := Option.some.inj h
      subst h9
      exact (J.jw_orM hx56 (J.jt_ne' (t := (x53 : PySem.Str)) (r := (x54 : PySem.Str)) hr (J.je_reprC (xs := (x51 : List (PySem.W.T4 PySem.Str Int Int (Option (Int × Int))))) 5 hgd hr W.l_repr (J.je_var 7 rfl) rfl hx53) (J.je_repr hgd hr W.l_repr (J.je_var 6 rfl) J.rw_val hx54) J.dv_val J.dv_val) fun _ r h => by
      obtain ⟨x55, hx55, h⟩ := J.bndE h
      have h9 := Option.some.inj h
      subst h9
      exact (J.jw_or1 (J.jt_ne' (t := (x55 : PySem.Str)) (r := (x16 : PySem.Str)) hr (J.je_lendS (t := (x55 : PySem.Str)) 2 3 4 2 rfl rfl rfl rfl (J.flat_str _) (fun B9 => (J.je_repr hgd hr W.l_repr (J.je_var 2 rfl) J.rw_val hx55))) (J.je_var 3 rfl) J.dv_val J.dv_val))))) (fun hp => ?_) (fun hp => ?_)
      · replace h := J.ifT hp h
        have h9 := Option.some.inj h
        subst h9
        exact J.js_ret J.je_bl fun v H o => ⟨_, rfl, J.Out.take 0 o⟩
      · replace h := J.ifF hp h
        refine J.js_end ?_
        change J.JS _ _ (⟨[(J.Slot.v (.ref p0)), (J.Slot.v (.ref p2)), (J.Slot.v (.ref p12)), (J.Slot.val (x16 : PySem.Str)), (J.Slot.val (0 : Int)), J.Slot.any, (J.Slot.val (x48 : (List (PySem.W.T4 PySem.Str Int Int (Option (Int × Int)))))), (J.Slot.v (.ref p52)), (J.Slot.v (.ref p14)), (J.Slot.val (x13.1.b : Int)), (J.Slot.val (x13.1.c : Int))], [(p2, (J.Cel.lst [(J.Slot.v (.ref p3)), (J.Slot.val (x1.2.1 : Int)), (J.Slot.val (x11.2.1 : Int))])), (p3, (J.Cel.lst ((x11.2.2 : List Int).map J.Slot.val))), (p12, (J.Cel.lst [J.Slot.say (J.Td p14 [(J.Slot.val (x13.1.b : Int)), (J.Slot.val (x13.1.c : Int))]), J.Slot.say (J.Td p15 [(J.Slot.val (x13.2.b : Int)), (J.Slot.val (x13.2.c : Int))])])), (p14, (J.mlC J.intsC (x13.1.a : List (List Int)))), (p15, (J.mlC J.intsC (x13.2.a : List (List Int)))), (p52, (J.Cel.lst ((x51 : List (PySem.W.T4 PySem.Str Int Int (Option (Int × Int)))).map J.Slot.val)))]⟩ : J.Stt) _ _
        obtain ⟨x58, hx58, h⟩ := J.bndE h
        refine J.js_expr (J.je_appG (xs := x51) (t := ((PySem.W.T4.mk ("hit" : PySem.Str) 0 5 (none : Option (Int × Int))) : (PySem.W.T4 PySem.Str Int Int (Option (Int × Int))))) 5 (J.je_var 7 rfl) rfl (J.je_tup (t := ((PySem.W.T4.mk ("hit" : PySem.Str) 0 5 (none : Option (Int × Int))) : (PySem.W.T4 PySem.Str Int Int (Option (Int × Int))))) (J.ja_cons J.je_str (J.ja_cons J.je_int (J.ja_cons J.je_int (J.ja_cons (J.je_nonO (α := (Int × Int)) J.je_non) J.ja_nil)))) (J.SlDs.cons J.sld_val (J.SlDs.cons J.sld_val (J.SlDs.cons J.sld_val (J.SlDs.cons J.sld_val J.SlDs.nil)))) rfl (Nat.le_of_ble_eq_true rfl)) rfl hx58) ?_
        obtain ⟨x59, hx59, h⟩ := J.bndE h
        obtain ⟨x60, hx60, h⟩ := J.bndE h
        obtain ⟨x61, hx61, h⟩ := J.bndE h
        refine J.js_if (J.jt_ne' (t := (x60 : PySem.Str)) (r := (x61 : PySem.Str)) hr (J.je_lend (t := (x60 : PySem.Str)) 3 8 rfl rfl (J.flat_str _) (fun B9 => (J.je_repr hgd hr W.l_repr (J.je_frL (J.je_callKE (f := F_loose K) (ok_loose W) hr (by decide) W.g_loose W.F_loose.kp (kbe_loose_2 W) (J.jk_cons (J.je_var 10 rfl) (J.jk_cons (J.je_var 9 rfl) (J.jk_cons (J.je_var 8 rfl) J.jk_nil))) (g := (⟨x13.1.a, x13.1.b, x13.1.c, x59⟩ : G_loose)) hx59 rfl (fun {T} {σ} {vs} {tv} {H} hl h => by
      match vs, hl, h with
      | [w0, w1, w2], _, h =>
        have h := J.Sta.rot (xs := [_]) (T := [_] ++ T) (vs := [w0]) (u := w1) (tv := [w2] ++ tv) rfl h
        have h := J.Sta.rot (xs := [_, _]) (T := [] ++ T) (vs := [w1, w0]) (u := w2) (tv := [] ++ tv) rfl h
        exact ⟨rfl, h⟩) .nil .nil (hG := fun G e => trivial))) J.rw_val hx60))) (J.je_repr hgd hr W.l_repr (J.je_var 6 rfl) J.rw_val hx61) J.dv_val J.dv_val) (fun hp => ?_) (fun hp => ?_)
        · replace h := J.ifT hp h
          have h9 := Option.some.inj h
          subst h9
          exact J.js_ret J.je_bl fun v H o => ⟨_, rfl, J.Out.take 0 o⟩
        · replace h := J.ifF hp h
          refine J.js_end ?_
          change J.JS _ _ (⟨[(J.Slot.v (.ref p0)), (J.Slot.v (.ref p2)), (J.Slot.v (.ref p12)), (J.Slot.val (x16 : PySem.Str)), (J.Slot.val (0 : Int)), J.Slot.any, (J.Slot.val (x48 : (List (PySem.W.T4 PySem.Str Int Int (Option (Int × Int)))))), (J.Slot.v (.ref p52)), (J.Slot.v (.ref p14)), (J.Slot.val (x13.1.b : Int)), (J.Slot.val (x13.1.c : Int))], [(p2, (J.Cel.lst [(J.Slot.v (.ref p3)), (J.Slot.val (x1.2.1 : Int)), (J.Slot.val (x11.2.1 : Int))])), (p3, (J.Cel.lst ((x11.2.2 : List Int).map J.Slot.val))), (p12, (J.Cel.lst [J.Slot.say (J.Td p14 [(J.Slot.val (x13.1.b : Int)), (J.Slot.val (x13.1.c : Int))]), J.Slot.say (J.Td p15 [(J.Slot.val (x13.2.b : Int)), (J.Slot.val (x13.2.c : Int))])])), (p14, (J.mlC J.intsC (x13.1.a : List (List Int)))), (p15, (J.mlC J.intsC (x13.2.a : List (List Int)))), (p52, (J.Cel.lst ((x58 : List (PySem.W.T4 PySem.Str Int Int (Option (Int × Int)))).map J.Slot.val)))]⟩ : J.Stt) _ _
          have h9 := Option.some.inj h
          subst h9
          exact J.js_nil fun T tv σ H g => ⟨_, rfl, (), J.le_fgt (sl := [(J.Slot.v (.ref p0)), (J.Slot.v (.ref p2)), (J.Slot.v (.ref p12)), (J.Slot.val (x16 : PySem.Str)), J.Slot.any, J.Slot.any, J.Slot.any, J.Slot.any, J.Slot.any, J.Slot.any, J.Slot.any]) (cs := [(p2, (J.Cel.lst [(J.Slot.v (.ref p3)), (J.Slot.val (x1.2.1 : Int)), (J.Slot.val (x11.2.1 : Int))])), (p3, (J.Cel.lst ((x11.2.2 : List Int).map J.Slot.val))), (p12, (J.Cel.lst [J.Slot.say (J.Td p14 [(J.Slot.val (x13.1.b : Int)), (J.Slot.val (x13.1.c : Int))]), J.Slot.say (J.Td p15 [(J.Slot.val (x13.2.b : Int)), (J.Slot.val (x13.2.c : Int))])])), (p14, (J.mlC J.intsC (x13.1.a : List (List Int)))), (p15, (J.mlC J.intsC (x13.2.a : List (List Int))))]) 5 (.keep (.keep (.keep (.keep (.drop (.drop (.drop (.drop (.drop (.drop (.drop .nil))))))))))) rfl _ _ _ _ g⟩
  · subst e
    try rw [Sum.elim_inl] at h
    change J.JS _ _ (⟨[(J.Slot.v (.ref p0)), (J.Slot.v (.ref p2)), (J.Slot.v (.ref p12)), (J.Slot.val (x16 : PySem.Str)), J.Slot.any, J.Slot.any, J.Slot.any, J.Slot.any, J.Slot.any, J.Slot.any, J.Slot.any], [(p2, (J.Cel.lst [(J.Slot.v (.ref p3)), (J.Slot.val (x1.2.1 : Int)), (J.Slot.val (x11.2.1 : Int))])), (p3, (J.Cel.lst ((x11.2.2 : List Int).map J.Slot.val))), (p12, (J.Cel.lst [J.Slot.say (J.Td p14 [(J.Slot.val (x13.1.b : Int)), (J.Slot.val (x13.1.c : Int))]), J.Slot.say (J.Td p15 [(J.Slot.val (x13.2.b : Int)), (J.Slot.val (x13.2.c : Int))])])), (p14, (J.mlC J.intsC (x13.1.a : List (List Int)))), (p15, (J.mlC J.intsC (x13.2.a : List (List Int))))]⟩ : J.Stt) _ _
    refine J.js_asg (J.je_ix (s := J.Slot.say (J.Td p14 [(J.Slot.val (x13.1.b : Int)), (J.Slot.val (x13.1.c : Int))])) (J.je_var 2 rfl) J.je_int (J.lv_cell 2 rfl J.say2) rfl) (J.jg_td (J.jgs_cons (J.jg_name 8 (hN := hN)) (J.jgs_cons (J.jg_name 9 (hN := hN)) (J.jgs_cons (J.jg_name 10 (hN := hN)) J.jgs_nil)))) ?_
    change J.JS _ _ (⟨[(J.Slot.v (.ref p0)), (J.Slot.v (.ref p2)), (J.Slot.v (.ref p12)), (J.Slot.val (x16 : PySem.Str)), J.Slot.any, J.Slot.any, J.Slot.any, J.Slot.any, (J.Slot.v (.ref p14)), (J.Slot.val (x13.1.b : Int)), (J.Slot.val (x13.1.c : Int))], [(p2, (J.Cel.lst [(J.Slot.v (.ref p3)), (J.Slot.val (x1.2.1 : Int)), (J.Slot.val (x11.2.1 : Int))])), (p3, (J.Cel.lst ((x11.2.2 : List Int).map J.Slot.val))), (p12, (J.Cel.lst [J.Slot.say (J.Td p14 [(J.Slot.val (x13.1.b : Int)), (J.Slot.val (x13.1.c : Int))]), J.Slot.say (J.Td p15 [(J.Slot.val (x13.2.b : Int)), (J.Slot.val (x13.2.c : Int))])])), (p14, (J.mlC J.intsC (x13.1.a : List (List Int)))), (p15, (J.mlC J.intsC (x13.2.a : List (List Int))))]⟩ : J.Stt) _ _
    refine J.js_expr (J.je_revM (f := J.intsC) (xs := (x13.1.a : List (List Int))) 3 (J.je_var 8 rfl) rfl) ?_
    change J.JS _ _ (⟨[(J.Slot.v (.ref p0)), (J.Slot.v (.ref p2)), (J.Slot.v (.ref p12)), (J.Slot.val (x16 : PySem.Str)), J.Slot.any, J.Slot.any, J.Slot.any, J.Slot.any, (J.Slot.v (.ref p14)), (J.Slot.val (x13.1.b : Int)), (J.Slot.val (x13.1.c : Int))], [(p2, (J.Cel.lst [(J.Slot.v (.ref p3)), (J.Slot.val (x1.2.1 : Int)), (J.Slot.val (x11.2.1 : Int))])), (p3, (J.Cel.lst ((x11.2.2 : List Int).map J.Slot.val))), (p12, (J.Cel.lst [J.Slot.say (J.Td p14 [(J.Slot.val (x13.1.b : Int)), (J.Slot.val (x13.1.c : Int))]), J.Slot.say (J.Td p15 [(J.Slot.val (x13.2.b : Int)), (J.Slot.val (x13.2.c : Int))])])), (p14, (J.mlC J.intsC ((x13.1.a).reverse : List (List Int)))), (p15, (J.mlC J.intsC (x13.2.a : List (List Int))))]⟩ : J.Stt) _ _
    obtain ⟨z64, hz64, h⟩ := J.bndE h
    refine J.js_exposeM (f := J.intsC) (xs := ((x13.1.a).reverse : List (List Int))) 3 rfl fun q65 hq65 => ?_
    change J.JS _ _ (⟨[(J.Slot.v (.ref p0)), (J.Slot.v (.ref p2)), (J.Slot.v (.ref p12)), (J.Slot.val (x16 : PySem.Str)), J.Slot.any, J.Slot.any, J.Slot.any, J.Slot.any, (J.Slot.v (.ref p14)), (J.Slot.val (x13.1.b : Int)), (J.Slot.val (x13.1.c : Int))], [(p2, (J.Cel.lst [(J.Slot.v (.ref p3)), (J.Slot.val (x1.2.1 : Int)), (J.Slot.val (x11.2.1 : Int))])), (p3, (J.Cel.lst ((x11.2.2 : List Int).map J.Slot.val))), (p12, (J.Cel.lst [J.Slot.say (J.Td p14 [(J.Slot.val (x13.1.b : Int)), (J.Slot.val (x13.1.c : Int))]), J.Slot.say (J.Td p15 [(J.Slot.val (x13.2.b : Int)), (J.Slot.val (x13.2.c : Int))])])), (p14, (J.mlA J.intsC q65 ((x13.1.a).reverse : List (List Int)))), (p15, (J.mlC J.intsC (x13.2.a : List (List Int))))]⟩ : J.Stt) _ _
    refine J.js_forEV (π := Unit) (f := J.revAtM) (ei := J.refI) (xs := J.idxs q65) (Sf := fun _ (s66 : List (List Int)) => (⟨[(J.Slot.v (.ref p0)), (J.Slot.v (.ref p2)), (J.Slot.v (.ref p12)), (J.Slot.val (x16 : PySem.Str)), J.Slot.any, J.Slot.any, J.Slot.any, J.Slot.any, (J.Slot.v (.ref p14)), (J.Slot.val (x13.1.b : Int)), (J.Slot.val (x13.1.c : Int))], [(p2, (J.Cel.lst [(J.Slot.v (.ref p3)), (J.Slot.val (x1.2.1 : Int)), (J.Slot.val (x11.2.1 : Int))])), (p3, (J.Cel.lst ((x11.2.2 : List Int).map J.Slot.val))), (p12, (J.Cel.lst [J.Slot.say (J.Td p14 [(J.Slot.val (x13.1.b : Int)), (J.Slot.val (x13.1.c : Int))]), J.Slot.say (J.Td p15 [(J.Slot.val (x13.2.b : Int)), (J.Slot.val (x13.2.c : Int))])])), (p14, (J.mlA J.intsC q65 (s66 : List (List Int)))), (p15, (J.mlC J.intsC (x13.2.a : List (List Int))))]⟩ : J.Stt)) (Sb := fun _ (s66 : List (List Int)) (a9 : PySem.Addr × Nat) => (⟨[(J.Slot.v (.ref p0)), (J.Slot.v (.ref p2)), (J.Slot.v (.ref p12)), (J.Slot.val (x16 : PySem.Str)), J.Slot.any, (J.refI a9), J.Slot.any, J.Slot.any, (J.Slot.v (.ref p14)), (J.Slot.val (x13.1.b : Int)), (J.Slot.val (x13.1.c : Int))], [(p2, (J.Cel.lst [(J.Slot.v (.ref p3)), (J.Slot.val (x1.2.1 : Int)), (J.Slot.val (x11.2.1 : Int))])), (p3, (J.Cel.lst ((x11.2.2 : List Int).map J.Slot.val))), (p12, (J.Cel.lst [J.Slot.say (J.Td p14 [(J.Slot.val (x13.1.b : Int)), (J.Slot.val (x13.1.c : Int))]), J.Slot.say (J.Td p15 [(J.Slot.val (x13.2.b : Int)), (J.Slot.val (x13.2.c : Int))])])), (p14, (J.mlA J.intsC q65 (s66 : List (List Int)))), (p15, (J.mlC J.intsC (x13.2.a : List (List Int))))]⟩ : J.Stt)) (s0 := ((x13.1.a).reverse : List (List Int))) (sE := z64) ((J.revAll_ok hq65).trans hz64) (J.ji_mlA (f := J.intsC) (xs := ((x13.1.a).reverse : List (List Int))) 3 (J.je_var 8 rfl) rfl) (fun _ _ _ _ g => ⟨(), J.le_fgt (sl := [(J.Slot.v (.ref p0)), (J.Slot.v (.ref p2)), (J.Slot.v (.ref p12)), (J.Slot.val (x16 : PySem.Str)), J.Slot.any, J.Slot.any, J.Slot.any, J.Slot.any, (J.Slot.v (.ref p14)), (J.Slot.val (x13.1.b : Int)), (J.Slot.val (x13.1.c : Int))]) (cs := [(p2, (J.Cel.lst [(J.Slot.v (.ref p3)), (J.Slot.val (x1.2.1 : Int)), (J.Slot.val (x11.2.1 : Int))])), (p3, (J.Cel.lst ((x11.2.2 : List Int).map J.Slot.val))), (p12, (J.Cel.lst [J.Slot.say (J.Td p14 [(J.Slot.val (x13.1.b : Int)), (J.Slot.val (x13.1.c : Int))]), J.Slot.say (J.Td p15 [(J.Slot.val (x13.2.b : Int)), (J.Slot.val (x13.2.c : Int))])])), (p14, (J.mlA J.intsC q65 ((x13.1.a).reverse : List (List Int)))), (p15, (J.mlC J.intsC (x13.2.a : List (List Int))))]) 5 (.keep (.keep (.keep (.keep (.drop (.drop (.drop (.drop (.keep (.keep (.keep .nil))))))))))) rfl _ _ _ _ g⟩) (fun _ _ => ⟨_, rfl⟩) (fun _ _ _ => J.jg_name 5 (hN := hN)) (fun _ s66 a9 s9 hm h => ?_) (fun _ => ?_)
    · have hq := J.idxs_at hm
      unfold J.revAtM at h
      obtain ⟨y9, hy, h⟩ := J.bndE h
      have h9 := Option.some.inj h
      subst h9
      refine J.js_le (J.le_openI (f := J.intsC) (xs := (s66 : List (List Int))) 3 a9.2 hq hy rfl) ?_
      refine J.js_expr (J.je_reverse (ss := (y9 : List Int).map J.Slot.val) 5 (J.je_var 5 rfl) rfl (J.plain_map _)) ?_
      rw [← List.map_reverse]
      refine J.js_le (J.le_closeI (f := J.intsC) (xs := (s66 : List (List Int))) (x := (y9 : List Int).reverse) 3 5 a9.2 5 hq rfl rfl (by decide) (fun _ => by nofun)) ?_
      exact J.js_nil fun T tv σ H g => ⟨(), J.le_fgt 5 (.keep (.keep (.keep (.keep (.drop (.drop (.drop (.drop (.keep (.keep (.keep .nil))))))))))) rfl _ _ _ _ g⟩
    refine J.js_le (J.le_hideM (f := J.intsC) (xs := (z64 : List (List Int))) 3 rfl) ?_
    change J.JS _ _ (⟨[(J.Slot.v (.ref p0)), (J.Slot.v (.ref p2)), (J.Slot.v (.ref p12)), (J.Slot.val (x16 : PySem.Str)), J.Slot.any, J.Slot.any, J.Slot.any, J.Slot.any, (J.Slot.v (.ref p14)), (J.Slot.val (x13.1.b : Int)), (J.Slot.val (x13.1.c : Int))], [(p2, (J.Cel.lst [(J.Slot.v (.ref p3)), (J.Slot.val (x1.2.1 : Int)), (J.Slot.val (x11.2.1 : Int))])), (p3, (J.Cel.lst ((x11.2.2 : List Int).map J.Slot.val))), (p12, (J.Cel.lst [J.Slot.say (J.Td p14 [(J.Slot.val (x13.1.b : Int)), (J.Slot.val (x13.1.c : Int))]), J.Slot.say (J.Td p15 [(J.Slot.val (x13.2.b : Int)), (J.Slot.val (x13.2.c : Int))])])), (p14, (J.mlC J.intsC (z64 : List (List Int)))), (p15, (J.mlC J.intsC (x13.2.a : List (List Int))))]⟩ : J.Stt) _ _
    obtain ⟨x67, hx67, h⟩ := J.bndE h
    obtain ⟨x68, hx68, h⟩ := J.bndE h
    obtain ⟨x69, hx69, h⟩ := J.bndE h
    obtain ⟨x70, hx70, h⟩ := J.bndE h
    have h9 := Option.some.inj h
    subst h9
    exact J.js_ret (J.jc_eq (t := (x68 : PySem.Str)) (r := (x70 : PySem.Str)) hr (J.je_lend (t := (x68 : PySem.Str)) 3 8 rfl rfl (J.flat_str _) (fun B9 => (J.je_repr hgd hr W.l_repr (J.je_frL (J.je_callN (f := F_loose K) (ok_loose W) hr (by decide) W.g_loose W.F_loose.kp (kbe_loose_1 W) (J.ja_cons (J.je_var 8 rfl) (J.ja_cons (J.je_var 9 rfl) J.ja_nil)) (J.jk_cons (J.je_var 10 rfl) J.jk_nil) (g := (⟨z64, x13.1.b, x13.1.c, x67⟩ : G_loose)) hx67 rfl rfl (fun {T} {σ} {vs} {ws} {tv} {H} hl hl2 h => by
      match vs, ws, hl, hl2, h with
      | [v0, v1], [w0], _, _, h =>
        have h := J.Sta.rot (xs := [_, _]) (T := [] ++ T) (vs := [w0, v0]) (u := v1) (tv := [] ++ tv) rfl h
        have h := J.Sta.rot (xs := [_, _]) (T := [] ++ T) (vs := [v1, w0]) (u := v0) (tv := [] ++ tv) rfl h
        exact ⟨rfl, h⟩) .nil .nil (hG := fun G e => trivial))) J.rw_val hx68))) (J.je_lend (t := (x70 : PySem.Str)) 3 8 rfl rfl (J.flat_str _) (fun B9 => (J.je_repr hgd hr W.l_repr (J.je_frL (J.je_call (f := F_law_due K) (ok_law_due W) hr (by decide) W.g__law_due W.F__law_due.kp W.b__law_due (J.ja_cons (J.je_var 8 rfl) (J.ja_cons (J.je_var 9 rfl) (J.ja_cons (J.je_var 10 rfl) J.ja_nil))) (g := (⟨z64, x13.1.b, x13.1.c, x69⟩ : G_law_due)) hx69 rfl .nil .nil (hG := fun G e => trivial))) J.rw_val hx70))) J.dv_val J.dv_val) fun v H o => J.Out.take 0 o
end
end Gk60
namespace J
universe u w
/-! ### plain Lean: what is told by some -/
def Tot {α : Type u} (m : Option α) (P : α → Prop) : Prop := ∃ r, m = some r ∧ P r
theorem tot_some {α : Type u} {x : α} {P : α → Prop} (h : P x) : Tot (some x) P := ⟨x, rfl, h⟩
theorem tot_bind {α : Type u} {β : Type w} {m : Option α} {f : α → Option β} {P : α → Prop} {Q : β → Prop} (h : Tot m P) (k : ∀ x, P x → Tot (f x) Q) : Tot (m.bind f) Q := by
  obtain ⟨r, rfl, hr⟩ := h
  exact k r hr
theorem tot_let {α : Type u} {β : Type w} {x : α} {f : α → Option β} {Q : β → Prop} (h : Tot (f x) Q) : Tot ((some x).bind f) Q := h
theorem tot_ite {α : Type u} {c : Bool} {a b : Option α} {P : α → Prop} (h1 : c = true → Tot a P) (h2 : c = false → Tot b P) : Tot (if c = true then a else b) P := by
  cases c with
  | true => exact h1 rfl
  | false => exact h2 rfl
theorem cmpM_cons {ι α β : Type} {f : ι → α → Option (Option β × ι)} {x : α} {xs : List α} {s : ι} : cmpM f (x :: xs) s = (f s x).bind fun r => (cmpM f xs r.2).bind fun q => some ((match r.1 with | some y => y :: q.1 | none => q.1), q.2) := by
  show Option.bind (f s x) _ = _
  cases f s x with
  | none => rfl
  | some r =>
    obtain ⟨o, s'⟩ := r
    show Option.bind (cmpM f xs s') _ = Option.bind (cmpM f xs s') _
    cases cmpM f xs s' with
    | none => rfl
    | some q =>
      obtain ⟨ys, s2⟩ := q
      cases o <;> rfl
theorem cmpM_fm {α β : Type} {f : Unit → α → Option (Option β × Unit)} {g : α → Option β} : ∀ {xs : List α}, (∀ x ∈ xs, f () x = some (g x, ())) → cmpM f xs () = some (xs.filterMap g, ())
  | [], _ => rfl
  | x :: xs, h => by
    rw [cmpM_cons, h x List.mem_cons_self]
    show (cmpM f xs ()).bind _ = _
    rw [cmpM_fm fun y hy => h y (List.mem_cons_of_mem _ hy), List.filterMap_cons]
    cases e : g x with
    | none => simp [e]
    | some y => simp [e]
theorem lcM_fm {α β : Type} {f : Unit → α → Option (Option β × Unit)} {g : α → Option β} {xs : List α} (h : ∀ x ∈ xs, f () x = some (g x, ())) (hl : xs.length ≤ 16777216) : lcM f xs () = some (xs.filterMap g, ()) := by
  unfold lcM
  rw [if_pos hl, cmpM_fm h]
theorem lcM_map {α β : Type} {f : Unit → α → Option (Option β × Unit)} {g : α → β} {xs : List α} (h : ∀ x ∈ xs, f () x = some (some (g x), ())) (hl : xs.length ≤ 16777216) : lcM f xs () = some (xs.map g, ()) := by
  rw [lcM_fm (g := fun x => some (g x)) h hl]
  congr 2
  induction xs with
  | nil => rfl
  | cons x xs ih => rw [List.filterMap_cons]; simp
/-! the guarded ones -/
theorem psh_ok {α : Type u} {xs : List α} {x : α} (h : xs.length < 16777216) : psh xs x = some (xs ++ [x]) := if_pos h
theorem catG_ok {α : Type} {xs ys : List α} (h : xs.length + ys.length ≤ 16777216) : catG xs ys = some (xs ++ ys) := if_pos h
theorem mulG_ok {i j : Int} (h : (-(18446744073709551616) < i ∧ i < 18446744073709551616) ∨ (-(18446744073709551616) < j ∧ j < 18446744073709551616)) : mulG i j = some (i * j) := if_pos h
theorem divG_ok {i j : Int} (h : 0 < j ∧ j < 18446744073709551616) : divG i j = some (i / j) := if_pos h
theorem modG_ok {i j : Int} (h : 0 < j) : modG i j = some (i % j) := if_pos h
theorem powG_ok {i : Int} {n : Nat} (h : i.natAbs < 18446744073709551616) : powG i n = some (i ^ n) := if_pos h
theorem rngG_ok {j : Int} (h : -(4611686018427387904 : Int) ≤ j ∧ j < 4611686018427387904) : rngG j = some (rng 0 j.toNat) := if_pos h
theorem gx_nat {α : Type u} {xs : List α} {i : Int} (h0 : 0 ≤ i) : gx xs i = xs[i.toNat]? := if_pos h0
theorem gx_ok {α : Type u} {xs : List α} {i : Int} (h : -(xs.length : Int) ≤ i ∧ i < xs.length) : ∃ t ∈ xs, gx xs i = some t := by
  unfold gx
  by_cases h0 : 0 ≤ i
  · rw [if_pos h0]
    have hl : i.toNat < xs.length := by omega
    exact ⟨xs[i.toNat], List.getElem_mem hl, List.getElem?_eq_getElem hl⟩
  · rw [if_neg h0, if_pos h.1]
    have hl : (i + xs.length).toNat < xs.length := by omega
    exact ⟨xs[(i + xs.length).toNat], List.getElem_mem hl, List.getElem?_eq_getElem hl⟩
theorem rng_mem {lo : Int} {n : Nat} {x : Int} (h : x ∈ rng lo n) : lo ≤ x ∧ x < lo + n := by
  unfold rng at h
  obtain ⟨i, hi, rfl⟩ := List.mem_map.mp h
  have := List.mem_range.mp hi
  omega
/-- min, max of whole numbers -/
theorem fold_best (g : Int → Int → Bool) (le : Int → Int → Prop) (hr : ∀ a, le a a) (ht : ∀ a b c, le a b → le b c → le a c) (h1 : ∀ a y, g y a = true → le y a) (h2 : ∀ a y, g y a = false → le a y) : ∀ (ts : List Int) (t : Int), (ts.foldl (fun a y => if g y a = true then y else a) t) ∈ t :: ts ∧ ∀ x ∈ t :: ts, le (ts.foldl (fun a y => if g y a = true then y else a) t) x
  | [], t => ⟨List.mem_cons_self, fun x hx => by
      rcases List.mem_cons.mp hx with rfl | hx
      · exact hr _
      · cases hx⟩
  | y :: ys, t => by
    have ih := fold_best g le hr ht h1 h2 ys (if g y t = true then y else t)
    rw [List.foldl_cons]
    refine ⟨?_, fun x hx => ?_⟩
    · rcases List.mem_cons.mp ih.1 with e | e
      · rw [e]
        split
        · exact List.mem_cons_of_mem _ List.mem_cons_self
        · exact List.mem_cons_self
      · exact List.mem_cons_of_mem _ (List.mem_cons_of_mem _ e)
    · have q := ih.2 _ List.mem_cons_self
      rcases List.mem_cons.mp hx with rfl | hx
      · refine ht _ _ _ q ?_
        split
        · rename_i e; exact h1 _ _ e
        · exact hr _
      · rcases List.mem_cons.mp hx with rfl | hx
        · refine ht _ _ _ q ?_
          split
          · exact hr _
          · rename_i e; exact h2 _ _ (by simpa using e)
        · exact ih.2 x (List.mem_cons_of_mem _ hx)
theorem maxG_int {xs : List Int} (h : xs ≠ []) : ∃ r ∈ xs, maxG xs = some r ∧ ∀ x ∈ xs, x ≤ r := by
  cases xs with
  | nil => exact absurd rfl h
  | cons t ts =>
    have k := fold_best (fun a b => decide (b < a)) (fun a b => b ≤ a) (fun a => Int.le_refl a) (fun a b c h1 h2 => Int.le_trans h2 h1) (fun a y e => by have := of_decide_eq_true e; omega) (fun a y e => by have := of_decide_eq_false e; omega) ts t
    exact ⟨_, k.1, rfl, k.2⟩
/-! .. with how many turns there are -/
theorem tot_forB {ι α : Type} {f : ι → α → Option ι} (I : Nat → ι → Prop) (K : Nat) : ∀ {xs : List α} {k : Nat} {s : ι}, I k s → k + xs.length = K → (∀ k s x, x ∈ xs → k < K → I k s → Tot (f s x) (I (k + 1))) → Tot (forM f xs s) (I K)
  | [], k, s, h, e, _ => ⟨s, rfl, by have : k = K := e; subst this; exact h⟩
  | x :: xs, k, s, h, e, hf => by
    simp only [List.length_cons] at e
    show Tot ((f s x).bind (forM f xs)) _
    refine tot_bind (hf k s x List.mem_cons_self (by omega) h) fun s' h' => ?_
    exact tot_forB I K (xs := xs) h' (by omega) fun k s y hy => hf k s y (List.mem_cons_of_mem _ hy)
theorem tot_cmpB {ι α β : Type} {f : ι → α → Option (Option β × ι)} (I : Nat → ι → Prop) (R : α → β → Prop) (K : Nat) : ∀ {xs : List α} {k : Nat} {s : ι}, I k s → k + xs.length = K → (∀ k s x, x ∈ xs → k < K → I k s → Tot (f s x) fun r => (∃ y, r.1 = some y ∧ R x y) ∧ I (k + 1) r.2) → Tot (cmpM f xs s) fun r => r.1.length = xs.length ∧ (∀ y ∈ r.1, ∃ x ∈ xs, R x y) ∧ I K r.2
  | [], k, s, h, e, _ => ⟨([], s), rfl, rfl, (fun y hy => by simp at hy), by have : k = K := e; subst this; exact h⟩
  | x :: xs, k, s, h, e, hf => by
    simp only [List.length_cons] at e
    rw [cmpM_cons]
    refine tot_bind (hf k s x List.mem_cons_self (by omega) h) fun r hr => ?_
    obtain ⟨⟨y, hy, hR⟩, hI⟩ := hr
    refine tot_bind (tot_cmpB I R K (xs := xs) hI (by omega) fun k s y hy => hf k s y (List.mem_cons_of_mem _ hy)) fun q hq => ?_
    obtain ⟨h1, h2, h3⟩ := hq
    refine tot_some ⟨?_, ?_, h3⟩
    · rw [hy]
      simp [h1]
    · intro z hz
      rw [hy] at hz
      rcases List.mem_cons.mp hz with rfl | hz
      · exact ⟨x, List.mem_cons_self, hR⟩
      · obtain ⟨x', hx', hr⟩ := h2 z hz
        exact ⟨x', List.mem_cons_of_mem _ hx', hr⟩
theorem tot_lcB {ι α β : Type} {f : ι → α → Option (Option β × ι)} (I : Nat → ι → Prop) (R : α → β → Prop) {xs : List α} {s : ι} (h : I 0 s) (hl : xs.length ≤ 16777216) (hf : ∀ k s x, x ∈ xs → k < xs.length → I k s → Tot (f s x) fun r => (∃ y, r.1 = some y ∧ R x y) ∧ I (k + 1) r.2) : Tot (lcM f xs s) fun r => r.1.length = xs.length ∧ (∀ y ∈ r.1, ∃ x ∈ xs, R x y) ∧ I xs.length r.2 := by
  unfold lcM
  rw [if_pos hl]
  exact tot_cmpB I R xs.length h (Nat.zero_add _) hf
/-! the law's own call -/
section
open PySem L2
theorem sta0 {H : Hp} {a : Addr} : Sta ⟨H, H⟩ ⟨[], []⟩ [.v (.ref a)] [] [.ref a] H :=
  ⟨H, [], [], { tmp := .cons .v .nil, cel := .nil, slo := ⟨rfl, fun i s hs => by simp at hs⟩, nod := List.nodup_nil, fre := (fun a ha => nomatch ha), gro := Ex.refl H, new := fun a o h => .inl h, sub := Ex.refl H, frm := Ex.refl H }⟩
theorem out_true {B : Base} {cs : List (Addr × Cel)} {v : V} {H : Hp} (h : Out B (.val true) cs v H) : v = .bl true := Sta.bool h
end
end J
namespace J
/-! ### plain: sets, dicts, the farthest page -/
theorem dget_put {β : Type} {m : List (Int × β)} {k q : Int} {v : β} : dget (dput m k v) q = if q = k then some v else dget m q := by
  unfold dput
  by_cases c : (m.any fun q => decide (q.1 = k)) = true
  · rw [if_pos c]
    induction m with
    | nil => simp at c
    | cons x m ih =>
      rw [List.map_cons]
      unfold dget
      rw [List.find?_cons, List.find?_cons]
      by_cases e : x.1 = k
      · rw [if_pos e]
        dsimp only
        by_cases e2 : q = k
        · rw [if_pos e2, decide_eq_true (by rw [e, e2])]
          rfl
        · rw [if_neg e2, decide_eq_false (show ¬ x.1 = q from fun h => e2 (h ▸ e))]
          dsimp only
          clear ih c
          congr 1
          induction m with
          | nil => rfl
          | cons y m ih =>
            rw [List.map_cons, List.find?_cons, List.find?_cons]
            by_cases e3 : y.1 = k
            · rw [if_pos e3]
              dsimp only
              rw [decide_eq_false (show ¬ y.1 = q from fun h => e2 (h ▸ e3))]
              exact ih
            · rw [if_neg e3]
              cases decide (y.1 = q)
              · exact ih
              · rfl
      · rw [if_neg e]
        have c2 : (m.any fun q => decide (q.1 = k)) = true := by
          rw [List.any_cons, decide_eq_false e, Bool.false_or] at c
          exact c
        by_cases e2 : x.1 = q
        · rw [decide_eq_true e2, if_neg (fun h => e (by rw [e2, h]))]
        · rw [decide_eq_false e2]
          exact ih c2
  · rw [if_neg c]
    have hn : ∀ x ∈ m, x.1 ≠ k := fun x hx e => c (List.any_eq_true.mpr ⟨x, hx, decide_eq_true e⟩)
    unfold dget
    rw [List.find?_append]
    by_cases e2 : q = k
    · rw [if_pos e2]
      have : m.find? (fun x => decide (x.1 = q)) = none := List.find?_eq_none.mpr fun x hx => by
        rw [decide_eq_true_eq, e2]
        exact hn x hx
      rw [this]
      subst e2
      simp
    · rw [if_neg e2]
      have : [(k, v)].find? (fun x => decide (x.1 = q)) = none := List.find?_eq_none.mpr fun x hx => by
        rw [List.mem_singleton.mp hx, decide_eq_true_eq]
        exact fun h => e2 h.symm
      rw [this]
      cases m.find? (fun x => decide (x.1 = q)) <;> rfl
theorem dput_len {β : Type} {m : List (Int × β)} {k : Int} {v : β} : (dput m k v).length ≤ m.length + 1 := by
  unfold dput
  split
  · rw [List.length_map]; omega
  · rw [List.length_append]; simp
theorem dget_drop {β : Type} {m : List (Int × β)} {g q : Int} : dget (ddrop m g) q = if q = g then none else dget m q := by
  unfold ddrop dget
  rw [List.find?_filter]
  by_cases e : q = g
  · rw [if_pos e, List.find?_eq_none.mpr fun x _ => by
      rw [decide_eq_true_eq, decide_eq_true_eq, decide_eq_true_eq]
      rintro ⟨h1, h2⟩
      exact h1 (h2.trans e)]
    rfl
  · rw [if_neg e]
    congr 2
    funext x
    rw [decide_eq_decide, decide_eq_true_eq, decide_eq_true_eq]
    exact ⟨fun h => h.2, fun h => ⟨fun h2 => e (h.symm.trans h2), h⟩⟩
theorem keys_iff {β : Type} {m : List (Int × β)} {q : Int} : q ∈ m.map (·.1) ↔ (dget m q).isSome = true := by
  unfold dget
  rw [Option.isSome_map, List.find?_isSome, List.mem_map]
  constructor
  · rintro ⟨x, h1, h2⟩; exact ⟨x, h1, decide_eq_true h2⟩
  · rintro ⟨x, h1, h2⟩; exact ⟨x, h1, of_decide_eq_true h2⟩
theorem ddrop_kn {β : Type} {m : List (Int × β)} {k : Int} (h : (m.map (·.1)).Nodup) : ((ddrop m k).map (·.1)).Nodup := h.sublist (List.filter_sublist.map _)
def farP (later A : List Int) : Option Int :=
  (lcM (fun (_ : Unit) (x : Int) => if (decide (x ∉ later)) = true then some (some x, ()) else some (none, ())) A ()).bind fun x4 => if (decide (x4.1 ≠ ([] : List Int))) = true then ((minG x4.1).bind fun x5 => some x5) else ((maxBy (fun y => (idxG later y).bind fun x8 => some x8) A).bind fun x9 => some x9)
def farOf (later A : List Int) : Int := (farP later A).getD 0
abbrev T3w := PySem.W.T3 Int PySem.Str (Option Int)
/-- what the walk by far tells, what it holds -/
def outF (r : Nat) (later A : List Int) (p : Int) : T3w := if p ∈ A then ⟨p, "hit", none⟩ else ⟨p, "fault", if A.length = r then some (farOf later A) else none⟩
end J
namespace J
/-! ### plain: the walk by far, as the program goes -/
end J
namespace J
/-! ### plain: the walks by first and last; a dict of when -/
abbrev T3 := PySem.W.T3 Int PySem.Str (Option Int)
/-! ### walk -/
structure Rel (m : List (Int × Int)) (H : List Int) (k : Nat) : Prop where
  kn : (m.map (·.1)).Nodup
  has : ∀ q, (dget m q).isSome = true ↔ q ∈ H
  ord : H.Pairwise fun a b => ∃ i j, dget m a = some i ∧ dget m b = some j ∧ i < j
  lt : ∀ q a, dget m q = some a → a < k
  nd : H.Nodup
theorem Rel.len {m : List (Int × Int)} {H : List Int} {k : Nat} (h : Rel m H k) : m.length = H.length := by
  have pm : (m.map (·.1)).Perm H := (List.perm_ext_iff_of_nodup h.kn h.nd).mpr fun q => by rw [keys_iff, h.has]
  rw [← pm.length_eq, List.length_map]
theorem Rel.drop {m : List (Int × Int)} {g : Int} {H : List Int} {k : Nat} (h : Rel m (g :: H) k) : Rel (ddrop m g) H k where
  kn := ddrop_kn h.kn
  has := fun q => by
    have hg := (List.nodup_cons.mp h.nd).1
    rw [dget_drop]
    by_cases e : q = g
    · rw [if_pos e, e]; exact ⟨fun h => by simp at h, fun h => absurd h hg⟩
    · rw [if_neg e, h.has, List.mem_cons]; exact ⟨fun h => h.elim (fun h => absurd h e) id, .inr⟩
  ord := by
    have hg := (List.nodup_cons.mp h.nd).1
    refine (List.Pairwise.and_mem.mp (List.pairwise_cons.mp h.ord).2).imp fun {a b} ⟨ha, hb, i, j, h1, h2, h3⟩ => ⟨i, j, ?_, ?_, h3⟩
    · rw [dget_drop, if_neg fun e => hg (by rw [← e]; exact ha), h1]
    · rw [dget_drop, if_neg fun e => hg (by rw [← e]; exact hb), h2]
  lt := fun q a ha => by
    rw [dget_drop] at ha
    split at ha
    · cases ha
    · exact h.lt q a ha
  nd := (List.nodup_cons.mp h.nd).2
def linedC (s3 : ((List (Int × Int)) × (List (PySem.W.T3 Int PySem.Str (Option Int))))) (s9 : Unit) (x11 : Int) : Option (Option (Int × Int) × Unit) :=
  (J.dget s3.1 x11).bind fun x12 => some (some (x12, x11), ())
def bl (mv : Bool) (a1 : Int) (s3 : List (Int × Int) × List T3) (x5 : Int × Int) : Option (List (Int × Int) × List T3) :=
  (J.ifM (J.dhas s3.1 x5.2) ( some ("hit" : PySem.Str)) ( some ("fault" : PySem.Str))).bind fun x6 => ((if ((decide (x6 = ("fault" : PySem.Str))) && (decide (((s3.1).length : Int) = a1))) = true then ((J.lcM (linedC s3) (s3.1.map (·.1)) ()).bind fun x13 => (J.gx (J.sortP x13.1) 0).bind fun x14 => ((some x14.2)).bind fun x15 => (J.dget s3.1 x15).bind fun x16 => some ((J.ddrop s3.1 x15), (some x14.2))) else ( some (s3.1, none)) : Option ((List (Int × Int)) × (Option Int)))).bind fun s7 => ((if ((decide (x6 = ("fault" : PySem.Str))) || mv) = true then ((J.dputG s7.1 x5.2 x5.1).bind fun x19 => some x19) else ( some s7.1) : Option (List (Int × Int)))).bind fun s17 => (J.psh s3.2 (PySem.W.T3.mk x5.2 x6 s7.2)).bind fun x20 => some (s17, x20)
/-! ### generic: what ask does -/
end J
namespace J
/-! ### plain: the ring of the walk by clock -/
theorem memD_t {α : Type} [DecidableEq α] {t : α} {xs : List α} (h : t ∈ xs) : memD t xs = true := decide_eq_true h
theorem memD_f {α : Type} [DecidableEq α] {t : α} {xs : List α} (h : t ∉ xs) : memD t xs = false := decide_eq_false h
def ixD {α : Type} [DecidableEq α] (t : α) (xs : List α) : Nat := xs.idxOf t
theorem stx_in {α : Type} {xs : List α} {i : Int} {v : α} (h0 : 0 ≤ i) (h1 : i < xs.length) : stx xs i v = some (xs.set i.toNat v) := by
  unfold stx ixp
  rw [if_pos h0, if_pos h1]
  rfl
end J
namespace J
/-! ### plain: pages otherwise called, walks cut, requests told twice -/
section
end
/-! the ring -/
section
end
end J
namespace J
/-! ### plain: a line of pairs, and as numbers -/
abbrev T4g := PySem.W.T4 PySem.Str Int Int (Option (Int × Int))
theorem remG_ixD {α : Type} [DecidableEq α] {xs : List α} {t : α} (h : t ∈ xs) : remG xs t = some (xs.eraseIdx (ixD t xs)) := if_pos h
def outG (r : Nat) (H : List P2) (p : P2) : T4g := if p ∈ H then ⟨"hit", p.1, p.2, none⟩ else ⟨"fault", p.1, p.2, if H.length = r then H.head? else none⟩
def nxtG (r : Nat) (H : List P2) (p : P2) : List P2 := if p ∈ H then H.eraseIdx (ixD p H) ++ [p] else (if H.length = r then H.tail else H) ++ [p]
def runG (r : Nat) : List P2 → List P2 → List T4g
  | _, [] => []
  | H, p :: l => outG r H p :: runG r (nxtG r H p) l
theorem runG_len (r : Nat) : ∀ (H l : List P2), (runG r H l).length = l.length
  | _, [] => rfl
  | H, p :: l => congrArg Nat.succ (runG_len r (nxtG r H p) l)
theorem outG_pair (r : Nat) (H : List P2) (p : P2) : ((outG r H p).b, (outG r H p).c) = p := by unfold outG; split <;> rfl
def lineG (p : P2) (r : Int) (H : List P2) : Option ((PySem.Str × (Option (Int × Int))) × (List (Int × Int))) :=
   if (J.memD p H) = true then ( (J.remG H p).bind fun x1 => (J.psh x1 p).bind fun x2 =>  some ((("hit" : PySem.Str), (none : Option (Int × Int))), x2)) else ( ((if (decide (((H).length : Int) = r)) = true then ((J.popG H 0).bind fun x5 => some (x5.2, (some x5.1))) else ( some (H, none)) : Option ((List (Int × Int)) × (Option (Int × Int))))).bind fun s3 => (J.psh s3.1 p).bind fun x6 => some ((("fault" : PySem.Str), s3.2), x6))
theorem lineG_ok {r : Nat} {H : List P2} {p : P2} (hr : 1 ≤ r) (hH : H.length ≤ 5000) : lineG p r H = some (((outG r H p).a, (outG r H p).d), nxtG r H p) := by
  unfold lineG outG nxtG
  by_cases c : p ∈ H
  · have hl := List.length_eraseIdx_le H (ixD p H)
    rw [if_pos (memD_t c), remG_ixD c, Option.bind_some, psh_ok (by omega), if_pos c, if_pos c]
    rfl
  · rw [if_neg (by rw [memD_f c]; decide), if_neg c, if_neg c]
    by_cases e : H.length = r
    · cases H with
      | nil => simp at e; omega
      | cons q H =>
        have ep : popG (q :: H) 0 = some (q, H) := by
          unfold popG
          rw [if_pos (by omega)]
          have : ixp (q :: H).length 0 = some 0 := by unfold ixp; simp
          rw [this]
          rfl
        simp only [List.length_cons] at hH
        rw [if_pos (decide_eq_true (by omega)), ep, Option.bind_some, Option.bind_some, psh_ok (by dsimp only; omega), if_pos e, if_pos e]
        rfl
    · rw [if_neg (by simp; omega), Option.bind_some, psh_ok (by dsimp only; omega), if_neg e, if_neg e]
      rfl
theorem nxtG_len {r : Nat} {H : List P2} {p : P2} : (nxtG r H p).length ≤ H.length + 1 := by
  unfold nxtG
  split
  · have := List.length_eraseIdx_le H (ixD p H)
    rw [List.length_append]
    simp
    omega
  · rw [List.length_append]
    split
    · rw [List.length_tail]
      simp
    · simp
def looseB (r : Int) (s8 : ((List (Int × Int)) × (List T4g))) (x10 : (Int × Int)) : Option ((List (Int × Int)) × (List T4g)) :=
  ((lineG (x10.1, x10.2) r s8.1).bind fun x1 => some (x1.1, x1.2)).bind fun x11 => (J.psh s8.2 (PySem.W.T4.mk x11.1.1 x10.1 x10.2 x11.1.2)).bind fun x12 => some (x11.2, x12)
theorem looseB_run {r : Nat} (hr : 1 ≤ r) : ∀ (l H : List P2) (fnd : List T4g), H.length + l.length ≤ 5000 → fnd.length + l.length ≤ 16777216 → ∃ H', forM (looseB r) l (H, fnd) = some (H', fnd ++ runG r H l)
  | [], H, fnd, _, _ => ⟨H, by rw [show runG r H [] = [] from rfl, List.append_nil]; rfl⟩
  | p :: l, H, fnd, h1, h2 => by
    simp only [List.length_cons] at h1 h2
    have ln := nxtG_len (r := r) (H := H) (p := p)
    have e1 : looseB r (H, fnd) p = some (nxtG r H p, fnd ++ [outG r H p]) := by
      unfold looseB
      dsimp only
      rw [lineG_ok hr (by omega), Option.bind_some, Option.bind_some, psh_ok (by omega), Option.bind_some]
      have : PySem.W.T4.mk (outG r H p).a p.1 p.2 (outG r H p).d = outG r H p := by unfold outG; split <;> rfl
      dsimp only
      rw [this]
    obtain ⟨H', e2⟩ := looseB_run hr l (nxtG r H p) (fnd ++ [outG r H p]) (by omega) (by rw [List.length_append]; simp; omega)
    refine ⟨H', ?_⟩
    show (looseB r (H, fnd) p).bind (forM (looseB r) l) = _
    rw [e1, Option.bind_some, e2, List.append_assoc]
    rfl
section
variable {f : P2 → Int} {D : P2 → Prop}
theorem nxtG_D {r : Nat} {H : List P2} {p : P2} (hH : ∀ x ∈ H, D x) (hp : D p) : ∀ x ∈ nxtG r H p, D x := fun x hx => by
  unfold nxtG at hx
  split at hx
  · rcases List.mem_append.mp hx with h | h
    · exact hH x (List.mem_of_mem_eraseIdx h)
    · rw [show x = p by simpa using h]
      exact hp
  · rcases List.mem_append.mp hx with h | h
    · split at h
      · exact hH x (List.mem_of_mem_tail h)
      · exact hH x h
    · rw [show x = p by simpa using h]
      exact hp
theorem runG_D {r : Nat} : ∀ (l H : List P2), (∀ x ∈ H, D x) → (∀ x ∈ l, D x) → ∀ t ∈ runG r H l, D (t.b, t.c) ∧ ∀ g, t.d = some g → D g
  | [], _, _, _, _, h => nomatch h
  | p :: l, H, hH, hl, t, h => by
    have hp := hl p List.mem_cons_self
    rcases List.mem_cons.mp (show t ∈ outG r H p :: runG r (nxtG r H p) l from h) with rfl | h
    · rw [outG_pair]
      refine ⟨hp, fun g hg => ?_⟩
      unfold outG at hg
      split at hg
      · cases hg
      · dsimp only at hg
        split at hg
        · exact hH g (List.mem_of_head? hg)
        · cases hg
    · exact runG_D l _ (nxtG_D hH hp) (fun x hx => hl x (List.mem_cons_of_mem _ hx)) t h
end
/-! ### requests by rounds -/
theorem forM_flat {α β : Type} {F : List β → α → Option (List β)} {g : α → List β} : ∀ (xs : List α) (s : List β), (∀ s x, x ∈ xs → s.length + (g x).length ≤ 16777216 → F s x = some (s ++ g x)) → s.length + (xs.flatMap g).length ≤ 16777216 → forM F xs s = some (s ++ xs.flatMap g)
  | [], s, _, _ => by simp [J.forM]
  | x :: xs, s, h, hl => by
    rw [List.flatMap_cons, List.length_append] at hl
    show (F s x).bind (forM F xs) = _
    rw [h s x List.mem_cons_self (by omega), Option.bind_some, forM_flat xs _ (fun s y hy => h s y (List.mem_cons_of_mem _ hy)) (by rw [List.length_append]; omega), List.flatMap_cons, List.append_assoc]
def chunk (i : Int) (b t : Nat) (lot : List (List Int)) : List P2 := (enu i lot).flatMap fun x => ((x.2.drop b).take t).map fun p => (x.1, p)
def rounds (lot : List (List Int)) (t K : Nat) : List P2 := (List.range K).flatMap fun i => chunk 0 (i * t) t lot
theorem chunk_cons (i : Int) (b t : Nat) (tr : List Int) (lot : List (List Int)) : chunk i b t (tr :: lot) = ((tr.drop b).take t).map (fun p => (i, p)) ++ chunk (i + 1) b t lot := rfl
theorem chunk_fst {b t : Nat} : ∀ {lot : List (List Int)} {i : Int} {q : P2}, q ∈ chunk i b t lot → i ≤ q.1 ∧ q.1 < i + lot.length
  | [], i, q, h => nomatch h
  | tr :: lot, i, q, h => by
    rw [chunk_cons] at h
    rw [List.length_cons]
    rcases List.mem_append.mp h with h | h
    · obtain ⟨p, _, rfl⟩ := List.mem_map.mp h
      exact ⟨Int.le_refl _, by show i < _; omega⟩
    · have := chunk_fst h
      omega
theorem chunk_job {b t : Nat} : ∀ {lot : List (List Int)} {i : Int} {j : Nat}, ((chunk i b t lot).filter fun q => decide (q.1 = i + j)).map (·.2) = ((lot.getD j []).drop b).take t
  | [], i, j => by simp [chunk, enu]
  | tr :: lot, i, j => by
    rw [chunk_cons, List.filter_append, List.map_append]
    cases j with
    | zero =>
      have e1 : (((tr.drop b).take t).map (fun p => ((i, p) : P2))).filter (fun q => decide (q.1 = i + ((0 : Nat) : Int))) = ((tr.drop b).take t).map (fun p => ((i, p) : P2)) := by
        rw [List.filter_eq_self]
        intro q hq
        obtain ⟨p, _, rfl⟩ := List.mem_map.mp hq
        exact decide_eq_true (by show i = i + ((0 : Nat) : Int); omega)
      have e2 : (chunk (i + 1) b t lot).filter (fun q => decide (q.1 = i + ((0 : Nat) : Int))) = [] := by
        rw [List.filter_eq_nil_iff]
        intro q hq
        have := chunk_fst hq
        simp
        omega
      rw [e1, e2, List.map_map, List.map_nil, List.append_nil]
      show ((tr.drop b).take t).map (fun p => p) = _
      rw [List.map_id']
      rfl
    | succ j =>
      have e1 : (((tr.drop b).take t).map (fun p => ((i, p) : P2))).filter (fun q => decide (q.1 = i + ((j + 1 : Nat) : Int))) = [] := by
        rw [List.filter_eq_nil_iff]
        intro q hq
        obtain ⟨p, _, rfl⟩ := List.mem_map.mp hq
        simp
        omega
      rw [e1, List.map_nil, List.nil_append]
      have ih := chunk_job (b := b) (t := t) (lot := lot) (i := i + 1) (j := j)
      rw [show i + 1 + (j : Int) = i + ((j + 1 : Nat) : Int) by omega] at ih
      rw [ih]
      rfl
theorem pieces {t : Nat} (tr : List Int) : ∀ K : Nat, (List.range K).flatMap (fun i => (tr.drop (i * t)).take t) = tr.take (K * t)
  | 0 => by simp
  | K + 1 => by
    rw [List.range_succ, List.flatMap_append, pieces tr K, List.flatMap_singleton, Nat.succ_mul, List.take_add]
theorem rounds_job {lot : List (List Int)} {t K : Nat} (j : Nat) (h : (lot.getD j []).length ≤ K * t) : ((rounds lot t K).filter fun q => decide (q.1 = (j : Int))).map (·.2) = lot.getD j [] := by
  unfold rounds
  rw [List.filter_flatMap, List.map_flatMap]
  have : (fun i => ((chunk 0 (i * t) t lot).filter fun q => decide (q.1 = (j : Int))).map (·.2)) = fun i => ((lot.getD j []).drop (i * t)).take t := by
    funext i
    have := chunk_job (b := i * t) (t := t) (lot := lot) (i := 0) (j := j)
    rwa [Int.zero_add] at this
  rw [this, pieces, List.take_of_length_le h]
theorem rounds_fst {lot : List (List Int)} {t K : Nat} {q : P2} (h : q ∈ rounds lot t K) : 0 ≤ q.1 ∧ q.1 < lot.length := by
  unfold rounds at h
  obtain ⟨i, _, hi⟩ := List.mem_flatMap.mp h
  have := chunk_fst hi
  omega
theorem len_by : ∀ (L : List P2) (m : Nat), (∀ q ∈ L, 0 ≤ q.1 ∧ q.1 < m) → (L.length : Int) = ((List.range m).map fun j : Nat => ((L.countP fun q => decide (q.1 = (j : Int)) : Nat) : Int)).sum
  | [], m, _ => by
    induction m with
    | zero => rfl
    | succ m ih =>
      rw [List.range_succ, List.map_append, List.sum_append_int, ← ih (fun q h => nomatch h)]
      simp
  | q :: L, m, h => by
    have ih := len_by L m fun x hx => h x (List.mem_cons_of_mem _ hx)
    have hq := h q List.mem_cons_self
    have one : ∀ m : Nat, ((List.range m).map fun j : Nat => (((q :: L).countP fun x => decide (x.1 = (j : Int)) : Nat) : Int)).sum = ((List.range m).map fun j : Nat => ((L.countP fun x => decide (x.1 = (j : Int)) : Nat) : Int)).sum + (if q.1 < m then 1 else 0) := fun m => by
      induction m with
      | zero =>
        rw [if_neg (by omega)]
        rfl
      | succ m ih =>
        rw [List.range_succ, List.map_append, List.map_append, List.sum_append_int, List.sum_append_int, ih]
        simp only [List.map_cons, List.map_nil, List.sum_cons, List.sum_nil, List.countP_cons]
        by_cases c : q.1 = (m : Int)
        · rw [if_pos (decide_eq_true c), if_neg (by omega), if_pos (by omega)]
          push_cast
          omega
        · have hd : (if decide (q.1 = (m : Int)) = true then (1 : Nat) else 0) = 0 := by
            rw [decide_eq_false c]
            rfl
          rw [hd]
          by_cases d : q.1 < (m : Int)
          · rw [if_pos d, if_pos (by omega)]
            push_cast
            omega
          · rw [if_neg d, if_neg (by omega)]
            push_cast
            omega
    rw [one m, if_pos hq.2, ← ih, List.length_cons]
    push_cast
    rfl
theorem rounds_len {lot : List (List Int)} {t K : Nat} (h : ∀ tr ∈ lot, tr.length ≤ K * t) : ((rounds lot t K).length : Int) = (lot.map fun tr => (tr.length : Int)).sum := by
  rw [len_by (rounds lot t K) lot.length fun q hq => rounds_fst hq]
  have : ∀ j, j ∈ List.range lot.length → (((rounds lot t K).countP fun q => decide (q.1 = (j : Int)) : Nat) : Int) = ((lot.getD j []).length : Int) := fun j hj => by
    have hj := List.mem_range.mp hj
    have hle : (lot.getD j []).length ≤ K * t := by
      rw [List.getD_eq_getElem?_getD, List.getElem?_eq_getElem hj]
      exact h _ (List.getElem_mem hj)
    have := congrArg List.length (rounds_job (lot := lot) (t := t) (K := K) j hle)
    rw [List.length_map, ← List.countP_eq_length_filter] at this
    omega
  rw [List.map_congr_left this]
  congr 1
  apply List.ext_getElem?
  intro i
  rw [List.getElem?_map, List.getElem?_map]
  by_cases c : i < lot.length
  · rw [List.getElem?_range c, List.getElem?_eq_getElem c]
    show some ((lot.getD i []).length : Int) = some _
    rw [List.getD_eq_getElem?_getD, List.getElem?_eq_getElem c]
    rfl
  · rw [List.getElem?_eq_none (by rw [List.length_range]; omega), List.getElem?_eq_none (by omega)]
    rfl
/-- how long the longest is -/
def mxl (lot : List (List Int)) : Nat := lot.foldr (fun tr n => max tr.length n) 0
theorem mxl_le : ∀ {lot : List (List Int)} {tr : List Int}, tr ∈ lot → tr.length ≤ mxl lot
  | [], _, h => nomatch h
  | t0 :: lot, tr, h => by
    show tr.length ≤ max t0.length (mxl lot)
    rcases List.mem_cons.mp h with rfl | h
    · omega
    · have := mxl_le h
      omega
theorem mxl_bound {B : Nat} : ∀ {lot : List (List Int)}, (∀ tr ∈ lot, tr.length ≤ B) → mxl lot ≤ B
  | [], _ => Nat.zero_le _
  | tr :: lot, h => by
    have := mxl_bound fun t ht => h t (List.mem_cons_of_mem _ ht)
    have := h tr List.mem_cons_self
    show max tr.length (mxl lot) ≤ B
    omega
theorem mxl_at : ∀ {lot : List (List Int)}, lot ≠ [] → ∃ tr ∈ lot, tr.length = mxl lot
  | [], h => absurd rfl h
  | [t0], _ => ⟨t0, List.mem_cons_self, by show _ = max t0.length 0; omega⟩
  | t0 :: t1 :: lot, _ => by
    obtain ⟨tr, h1, h2⟩ := mxl_at (lot := t1 :: lot) (by simp)
    by_cases c : tr.length ≤ t0.length
    · exact ⟨t0, List.mem_cons_self, by show _ = max t0.length (mxl (t1 :: lot)); omega⟩
    · exact ⟨tr, List.mem_cons_of_mem _ h1, by show _ = max t0.length (mxl (t1 :: lot)); omega⟩
theorem maxDf_len (lot : List (List Int)) : maxDf (lot.map fun tr => (tr.length : Int)) 0 = (mxl lot : Nat) := by
  cases lot with
  | nil => rfl
  | cons t0 lot =>
    obtain ⟨m, hm, em, hmax⟩ := maxG_int (xs := (t0 :: lot).map fun tr => (tr.length : Int)) (by simp)
    have e : maxDf ((t0 :: lot).map fun tr => (tr.length : Int)) 0 = m := by
      have : maxG ((t0 :: lot).map fun tr => (tr.length : Int)) = some (maxDf ((t0 :: lot).map fun tr => (tr.length : Int)) 0) := rfl
      rw [this] at em
      exact Option.some.inj em
    rw [e]
    obtain ⟨tr, htr, rfl⟩ := List.mem_map.mp hm
    have h1 := mxl_le htr
    obtain ⟨t2, ht2, e2⟩ := mxl_at (lot := t0 :: lot) (by simp)
    have h2 := hmax _ (List.mem_map.mpr ⟨t2, ht2, rfl⟩)
    omega
def Kof (n t : Nat) : Nat := if 0 < n then (n - 1) / t + 1 else 0
theorem Kof_ge {n t : Nat} (ht : 1 ≤ t) : n ≤ Kof n t * t := by
  unfold Kof
  split
  · have := Nat.div_add_mod (n - 1) t
    have := Nat.mod_lt (n - 1) (show 0 < t by omega)
    rw [Nat.add_mul, Nat.one_mul, Nat.mul_comm]
    omega
  · omega
def roundsC1 (x12 : (Int × (List Int))) (s13 : Unit) (x15 : Int) : Option (Option (Int × Int) × Unit) :=
   some (some (x12.1, x15), ())
def roundsB2 (a1 : Int) (x9 : Int) (s10 : (List (Int × Int))) (x12 : (Int × (List Int))) : Option (List (Int × Int)) :=
  (J.lcM (roundsC1 x12) (J.slc x12.2 (some x9) (some (x9 + a1))) ()).bind fun x16 => (J.catG s10 x16.1).bind fun x17 => some x17
def roundsB3 (a0 : (List (List Int))) (a1 : Int) (s7 : (List (Int × Int))) (x9 : Int) : Option (List (Int × Int)) :=
  (J.forM (roundsB2 a1 x9) (J.enu 0 a0) s7).bind fun s18 => some s18
def roundsC0 (s2 : Unit) (x4 : (List Int)) : Option (Option Int × Unit) :=
   some (some ((x4).length : Int), ())
def roundsO (a0 : (List (List Int))) (a1 : Int) : Option (List (Int × Int)) :=
  (J.lcM roundsC0 a0 ()).bind fun x5 => (J.rngG3 0 (J.maxDf x5.1 0) a1).bind fun x6 => (J.forM (roundsB3 a0 a1) x6 ([] : List (Int × Int))).bind fun s19 => some s19
theorem slc_part {l : List Int} {b t : Nat} : slc l (some (b : Int)) (some ((b : Int) + t)) = (l.drop b).take t := by
  unfold slc sx
  dsimp only
  rw [if_neg (by omega), if_neg (by omega), Int.toNat_natCast, show ((b : Int) + (t : Int)).toNat = b + t by omega]
  by_cases h : b ≤ l.length
  · rw [Nat.min_eq_left h]
    by_cases h2 : b + t ≤ l.length
    · rw [Nat.min_eq_left h2]
      congr 1
      omega
    · rw [Nat.min_eq_right (by omega), List.take_of_length_le (by rw [List.length_drop]; exact Nat.le_refl _), List.take_of_length_le (by rw [List.length_drop]; omega)]
  · rw [List.drop_eq_nil_of_le (show l.length ≤ b by omega), List.drop_eq_nil_of_le (show l.length ≤ min b l.length by omega)]
    simp
theorem rounds_ok {lot : List (List Int)} {t B : Nat} (ht : 1 ≤ t ∧ t ≤ 100000) (hl : lot.length ≤ 100) (hB : B ≤ 100000) (hs : ∀ tr ∈ lot, tr.length ≤ B) : roundsO lot t = some (rounds lot t (Kof (mxl lot) t)) := by
  have hK := Kof_ge (n := mxl lot) ht.1
  have hm := mxl_bound hs
  have hlen := rounds_len (lot := lot) (t := t) (K := Kof (mxl lot) t) fun tr htr => Nat.le_trans (mxl_le htr) hK
  have hsum : ∀ {l : List (List Int)}, (∀ tr ∈ l, tr.length ≤ B) → (l.map fun tr => (tr.length : Int)).sum ≤ (B : Int) * l.length := fun {l} => by
    induction l with
    | nil => intro _; simp
    | cons tr l ih =>
      intro h
      have := ih fun x hx => h x (List.mem_cons_of_mem _ hx)
      have := h tr List.mem_cons_self
      rw [List.map_cons, List.sum_cons, List.length_cons]
      push_cast
      rw [Int.mul_add, Int.mul_one]
      omega
  have hsum2 := hsum hs
  have hbig : (B : Int) * lot.length ≤ 100000 * 100 := Int.mul_le_mul (by omega) (by omega) (by omega) (by omega)
  unfold roundsO
  rw [lcM_map (g := fun tr : List Int => (tr.length : Int)) (fun tr _ => rfl) (by omega), Option.bind_some]
  dsimp only
  rw [maxDf_len]
  have er : rngG3 0 ((mxl lot : Nat) : Int) (t : Int) = some ((List.range (Kof (mxl lot) t)).map fun i => ((i * t : Nat) : Int)) := by
    unfold rngG3
    rw [if_pos (by omega)]
    have ek : (if (0 : Int) < ((mxl lot : Nat) : Int) then ((((mxl lot : Nat) : Int) - 0 - 1) / (t : Int) + 1).toNat else 0) = Kof (mxl lot) t := by
      unfold Kof
      by_cases c : 0 < mxl lot
      · rw [if_pos (by omega), if_pos c, show (((mxl lot : Nat) : Int) - 0 - 1) = ((mxl lot - 1 : Nat) : Int) by omega, ← Int.natCast_ediv]
        exact Int.toNat_natCast ((mxl lot - 1) / t + 1)
      · rw [if_neg (by omega), if_neg c]
    rw [ek]
    unfold rgs
    congr 1
    apply List.map_congr_left
    intro i _
    push_cast
    omega
  rw [er, Option.bind_some]
  have key := forM_flat (F := roundsB3 lot (t : Int)) (g := fun b : Int => chunk 0 b.toNat t lot) ((List.range (Kof (mxl lot) t)).map fun i => ((i * t : Nat) : Int)) [] (fun s x hx hx2 => by
    obtain ⟨i, _, rfl⟩ := List.mem_map.mp hx
    rw [Int.toNat_natCast] at hx2 ⊢
    unfold roundsB3
    rw [forM_flat (F := roundsB2 (t : Int) ((i * t : Nat) : Int)) (g := fun x : Int × List Int => ((x.2.drop (i * t)).take t).map fun p => (x.1, p)) (enu 0 lot) s (fun s x hx h => by
      unfold roundsB2
      have hxl : x.2.length ≤ B := by
        obtain ⟨n, hn⟩ := List.mem_iff_getElem?.mp hx
        have := (enu_get _ _ _ hn).2
        exact hs _ (List.mem_of_getElem? this)
      rw [slc_part, lcM_map (g := fun p : Int => ((x.1, p) : Int × Int)) (fun p _ => rfl) (by rw [List.length_take, List.length_drop]; omega), Option.bind_some, catG_ok h, Option.bind_some]) hx2, Option.bind_some]
    rfl) (by
      rw [List.flatMap_map]
      have : (List.range (Kof (mxl lot) t)).flatMap (fun i => chunk 0 (((i * t : Nat) : Int)).toNat t lot) = rounds lot t (Kof (mxl lot) t) := by
        unfold rounds
        simp only [Int.toNat_natCast]
      rw [this, List.length_nil]
      omega)
  rw [key, Option.bind_some, List.nil_append, List.flatMap_map]
  rfl
end J
namespace J
/-! ### plain: what every rule's walk is like; no rule makes fewer faults than far -/
inductive Good (r : Nat) : List Int → List Int → List T3 → Prop where
  | nil (H : List Int) : Good r H [] []
  | hit {H H' : List Int} {p : Int} {l : List Int} {ts : List T3} : p ∈ H → H'.Nodup → (∀ x, x ∈ H' ↔ x ∈ H) → Good r H' l ts → Good r H (p :: l) (⟨p, "hit", none⟩ :: ts)
  | add {H H' : List Int} {p : Int} {l : List Int} {ts : List T3} : p ∉ H → H.length < r → H'.Nodup → (∀ x, x ∈ H' ↔ x = p ∨ x ∈ H) → Good r H' l ts → Good r H (p :: l) (⟨p, "fault", none⟩ :: ts)
  | swap {H H' : List Int} {p g : Int} {l : List Int} {ts : List T3} : p ∉ H → H.length = r → g ∈ H → H'.Nodup → (∀ x, x ∈ H' ↔ x = p ∨ (x ∈ H ∧ x ≠ g)) → Good r H' l ts → Good r H (p :: l) (⟨p, "fault", some g⟩ :: ts)
theorem Good.len {r : Nat} {H l : List Int} {ts : List T3} (h : Good r H l ts) : ts.length = l.length := by
  induction h with
  | nil => rfl
  | hit _ _ _ _ ih => rw [List.length_cons, List.length_cons, ih]
  | add _ _ _ _ _ ih => rw [List.length_cons, List.length_cons, ih]
  | swap _ _ _ _ _ _ ih => rw [List.length_cons, List.length_cons, ih]
/-! the rules' walks are such -/
end J
namespace J
/-! ### plain: faults of such walks; Belady -/
structure Hd (m : List (Int × Bool)) (H : List Int) : Prop where
  kn : (m.map (·.1)).Nodup
  has : ∀ q, (dget m q).isSome = true ↔ q ∈ H
  nd : H.Nodup
theorem Hd.len {m : List (Int × Bool)} {H : List Int} (h : Hd m H) : m.length = H.length := by
  have pm : (m.map (·.1)).Perm H := (List.perm_ext_iff_of_nodup h.kn h.nd).mpr fun q => by rw [keys_iff, h.has]
  rw [← pm.length_eq, List.length_map]
/-! Belady -/
end J
namespace J
/-! ### papers: what a set of places leaves, and the rule far -/
/-- the gaps left open and the places paid for, behind a set of pages asked for since the last place -/
def pay (r : Nat) (S : Nat → Bool) : Nat → List Int → List Int → Nat
  | _, _, [] => 0
  | k, A, p :: l => (if p ∈ A then 1 else 0) + (if S k = true then (r - 1) + pay r S (k + 1) [p] l else pay r S (k + 1) (p :: A) l)
end J
namespace J
/-! ### gaps and bounds, as the program counts them -/
theorem forM_idx {ι α : Type} {f : ι → α → Option ι} (st : Nat → ι) : ∀ {xs : List α} {k : Nat}, (∀ i x, xs[i]? = some x → f (st (k + i)) x = some (st (k + i + 1))) → J.forM f xs (st k) = some (st (k + xs.length))
  | [], k, _ => rfl
  | x :: xs, k, h => by
    show (f (st k) x).bind (J.forM f xs) = _
    rw [show f (st k) x = some (st (k + 1)) from h 0 x rfl, Option.bind_some, forM_idx st (k := k + 1) fun i y hy => by
      have := h (i + 1) y hy
      rwa [show k + (i + 1) = k + 1 + i by omega] at this]
    rw [List.length_cons, show k + 1 + xs.length = k + (xs.length + 1) by omega]
def lastAt (l : List Int) : Nat → Int → Option Int
  | 0, _ => none
  | k + 1, p => if l.getD k 0 = p then some (k : Int) else lastAt l k p
/-! ### the same, by what is left open and paid -/
def pm (ps : List Int) (k : Nat) : Bool := decide ((k : Int) ∈ ps)
end J
namespace J
/-! ### the paper told: the least of the shortest of the best -/
theorem forM_map {α β : Type} {f : List β → α → Option (List β)} {g : α → β} : ∀ {xs : List α} {s : List β}, (∀ s x, x ∈ xs → s.length < 16777216 → f s x = some (s ++ [g x])) → s.length + xs.length ≤ 16777216 → forM f xs s = some (s ++ xs.map g)
  | [], s, _, _ => by simp [J.forM]
  | x :: xs, s, h, hl => by
    simp only [List.length_cons] at hl
    show (f s x).bind (forM f xs) = _
    rw [h s x List.mem_cons_self (by omega), Option.bind_some, forM_map (fun s y hy => h s y (List.mem_cons_of_mem _ hy)) (by simp; omega)]
    simp
abbrev T3i := PySem.W.T3 Int Int (List Int)
/-! gaps from a number on, up to one -/
theorem set_range {N i : Nat} {c : Nat → Int} {v : Int} : ((List.range N).map c).set i v = (List.range N).map fun m => if m = i then v else c m := by
  refine List.ext_getElem? fun m => ?_
  rw [List.getElem?_set, List.getElem?_map, List.getElem?_map, List.length_map, List.length_range]
  by_cases e : i = m
  · subst e
    by_cases h : i < N
    · rw [if_pos rfl, if_pos h, List.getElem?_range h]; simp
    · rw [if_pos rfl, if_neg h, List.getElem?_eq_none (by simpa using h)]; rfl
  · rw [if_neg e]
    by_cases h : m < N
    · rw [List.getElem?_range h]; simp [show ¬ m = i from fun z => e z.symm]
    · rw [List.getElem?_eq_none (by simpa using h)]; rfl
theorem gx_range {β : Type} {f : Nat → β} {n i : Nat} (hi : i < n) : gx ((List.range n).map f) (i : Int) = some (f i) := by
  rw [gx_nat (by omega), Int.toNat_natCast, List.getElem?_map, List.getElem?_range hi]; rfl
/-! what is open up to a place -/
def nd : Nat → List Int → List Int → Nat
  | 0, _, _ => 0
  | _ + 1, _, [] => 0
  | m + 1, A, p :: l => (if p ∈ A then 1 else 0) + nd m (p :: A) l
def frm (l : List Int) (f : Int) (i : Nat) : Bool := (lastAt l i (l.getD i 0)).any fun a => decide (f ≤ a)
/-! the cost of a paper behind a place -/
def hd1 (l : List Int) (j : Nat) : List Int := if j = 0 then [] else [l.getD (j - 1) 0]
def cost (r : Nat) (l : List Int) (j : Nat) (Q : List Int) : Nat := pay r (pm Q) j (hd1 l j) (l.drop j)
/-! the least of a list of such -/
def lexle : List Int → List Int → Prop
  | [], _ => True
  | _ :: _, [] => False
  | x :: xs, y :: ys => x < y ∨ (x = y ∧ lexle xs ys)
def le2 (s t : T3i) : Prop := s.a < t.a ∨ (s.a = t.a ∧ (s.b < t.b ∨ (s.b = t.b ∧ lexle s.c t.c)))
theorem le2.w {s t : T3i} (h : le2 s t) : s.a < t.a ∨ (s.a = t.a ∧ s.b ≤ t.b) := by
  rcases h with h | ⟨h, k⟩
  · exact .inl h
  · exact .inr ⟨h, k.elim (fun z => by omega) fun z => by omega⟩
/-! the table -/
def InR (l : List Int) (j : Nat) (Q : List Int) : Prop := Q.Pairwise (· < ·) ∧ ∀ x ∈ Q, (j : Int) ≤ x ∧ x < l.length
structure Feas (r : Nat) (l : List Int) (j : Nat) (t : T3i) : Prop where
  inr : InR l j t.c
  cst : t.a = (cost r l j t.c : Nat)
  cnt : t.b = (t.c.length : Nat)
structure BestP (r : Nat) (l : List Int) (j : Nat) (t : T3i) : Prop extends Feas r l j t where
  least : ∀ Q, InR l j Q → le2 t ⟨(cost r l j Q : Nat), (Q.length : Nat), Q⟩
theorem InR.length {l : List Int} : ∀ {Q : List Int} {j : Nat}, InR l j Q → Q.length + j ≤ max j l.length
  | [], j, _ => by simp; omega
  | q :: Q, j, h => by
    obtain ⟨h1, h2⟩ := h
    rw [List.pairwise_cons] at h1
    have hq := h2 q List.mem_cons_self
    have := InR.length (l := l) (Q := Q) (j := (q + 1).toNat) ⟨h1.2, fun x hx => by
      have := h1.1 x hx
      have := h2 x (List.mem_cons_of_mem _ hx)
      omega⟩
    rw [List.length_cons]
    omega
structure Tb (r : Nat) (l : List Int) (j : Nat) (s : List (Int × T3i)) : Prop where
  at_ : ∀ q : Nat, j ≤ q → q < l.length → ∃ t, dget s (q : Int) = some t ∧ BestP r l (q + 1) t
  few : s.length + j ≤ l.length + 1
theorem Tb.next {r : Nat} {l : List Int} {j : Nat} {s : List (Int × T3i)} {m : T3i} (h : Tb r l (j + 1) s) (hm : BestP r l (j + 1) m) : Tb r l j (dput s ((j : Int)) m) := by
  have hl := dput_len (m := s) (k := (j : Int)) (v := m)
  have := h.few
  refine ⟨fun q h1 h2 => ?_, by omega⟩
  rw [dget_put]
  by_cases c : q = j
  · subst c
    rw [if_pos rfl]
    exact ⟨m, rfl, hm⟩
  · rw [if_neg (by omega)]
    exact h.at_ q (by omega) h2
end J
namespace J
/-! ### plain: two lines of pairs, one within the other -/
theorem erase_ixD {α : Type} [DecidableEq α] {p : α} : ∀ {H : List α}, H.Nodup → p ∈ H → H.eraseIdx (ixD p H) = H.filter fun x => decide (x ≠ p)
  | [], _, h => nomatch h
  | x :: H, hn, h => by
    obtain ⟨hx, hn⟩ := List.nodup_cons.mp hn
    have ih := erase_ixD (p := p) hn
    unfold ixD at ih ⊢
    rw [List.idxOf_cons]
    by_cases c : x = p
    · subst c
      rw [beq_self_eq_true, cond_true, List.eraseIdx_cons_zero, List.filter_cons, if_neg (by simp)]
      refine (List.filter_eq_self.mpr fun y hy => ?_).symm
      exact decide_eq_true fun e => hx (e ▸ hy)
    · rw [beq_eq_false_iff_ne.mpr c, cond_false, List.eraseIdx_cons_succ, List.filter_cons, if_pos (decide_eq_true c)]
      rw [ih ((List.mem_cons.mp h).resolve_left fun e => c e.symm)]
theorem nxtG_hit {r : Nat} {H : List P2} {p : P2} (hn : H.Nodup) (c : p ∈ H) : nxtG r H p = (H.filter fun x => decide (x ≠ p)) ++ [p] := by
  unfold nxtG
  rw [if_pos c, erase_ixD hn c]
theorem nxtG_miss {r : Nat} {H : List P2} {p : P2} (c : p ∉ H) : nxtG r H p = (if H.length = r then H.tail else H) ++ [p] := if_neg c
theorem mem_hitG {r : Nat} {H : List P2} {p : P2} (hn : H.Nodup) (c : p ∈ H) (x : P2) : x ∈ nxtG r H p ↔ x ∈ H := by
  rw [nxtG_hit hn c, List.mem_append, List.mem_filter, List.mem_singleton]
  constructor
  · rintro (⟨h, _⟩ | rfl)
    · exact h
    · exact c
  · intro h
    by_cases e : x = p
    · exact .inr e
    · exact .inl ⟨h, decide_eq_true e⟩
theorem nodup_end {H : List P2} {p : P2} (hn : H.Nodup) (c : p ∉ H) : (H ++ [p]).Nodup :=
  List.nodup_append.mpr ⟨hn, by simp, fun a ha b hb e => by rw [List.mem_singleton.mp hb] at e; exact c (e ▸ ha)⟩
theorem nxtG_nodup {r : Nat} {H : List P2} {p : P2} (hn : H.Nodup) : (nxtG r H p).Nodup := by
  by_cases c : p ∈ H
  · rw [nxtG_hit hn c]
    exact nodup_end (hn.filter _) fun h => of_decide_eq_true (List.mem_filter.mp h).2 rfl
  · rw [nxtG_miss c]
    split
    · exact nodup_end (hn.sublist (List.tail_sublist _)) fun h => c (List.mem_of_mem_tail h)
    · exact nodup_end hn c
theorem len_same {A B : List P2} (ha : A.Nodup) (hb : B.Nodup) (h : ∀ x, x ∈ A ↔ x ∈ B) : A.length = B.length := ((List.perm_ext_iff_of_nodup ha hb).mpr h).length_eq
theorem nxtG_le {r : Nat} {H : List P2} {p : P2} (hr : 1 ≤ r) (hn : H.Nodup) (hl : H.length ≤ r) : (nxtG r H p).length ≤ r := by
  by_cases c : p ∈ H
  · rw [len_same (nxtG_nodup hn) hn (mem_hitG hn c)]
    exact hl
  · rw [nxtG_miss c, List.length_append]
    split
    · rw [List.length_tail]
      simp
      omega
    · simp
      omega
/-! ### frames for all -/
/-! ### pairs otherwise called -/
section
end
theorem chunk_append {b t : Nat} : ∀ {A B : List (List Int)} {i : Int}, chunk i b t (A ++ B) = chunk i b t A ++ chunk (i + A.length) b t B
  | [], B, i => by
    show chunk i b t B = [] ++ chunk (i + ((0 : Nat) : Int)) b t B
    rw [show i + ((0 : Nat) : Int) = i by omega, List.nil_append]
  | a :: A, B, i => by
    rw [List.cons_append, chunk_cons, chunk_cons, chunk_append, List.append_assoc, List.length_cons]
    congr 3
    push_cast
    omega
/-! ### dicts keyed by pairs: the keys -/
def keysT {β : Type} (m : List (P2 × β)) : List P2 := m.map (·.1)
theorem thas_keys {β : Type} {m : List (P2 × β)} {p : P2} : thas m p = true ↔ p ∈ keysT m := by
  unfold thas tget keysT
  rw [Option.isSome_map, List.find?_isSome, List.mem_map]
  constructor
  · rintro ⟨q, h, e⟩
    exact ⟨q, h, of_decide_eq_true e⟩
  · rintro ⟨q, h, e⟩
    exact ⟨q, h, decide_eq_true e⟩
theorem tput_keys {β : Type} {m : List (P2 × β)} {p : P2} {v : β} : keysT (tput m p v) = if p ∈ keysT m then keysT m else keysT m ++ [p] := by
  unfold tput keysT
  by_cases c : p ∈ m.map (·.1)
  · obtain ⟨q, hq, e⟩ := List.mem_map.mp c
    rw [if_pos (List.any_eq_true.mpr ⟨q, hq, decide_eq_true e⟩), if_pos c, List.map_map]
    exact List.map_congr_left fun x _ => by show (if x.1 = p then (x.1, v) else x).1 = x.1; split <;> rfl
  · rw [if_neg, if_neg c, List.map_append]
    · rfl
    · intro h
      obtain ⟨q, hq, e⟩ := List.any_eq_true.mp h
      exact c (List.mem_map.mpr ⟨q, hq, of_decide_eq_true e⟩)
theorem tdrop_keys {β : Type} {m : List (P2 × β)} {g : P2} : keysT (tdrop m g) = (keysT m).filter fun x => decide (x ≠ g) := by
  unfold tdrop keysT
  rw [List.filter_map]
  rfl
end J
namespace J
/-! ### rooms dealt: the least of the lists with the fewest together -/
structure Fs (k : Nat) (left : Int) (sz : List Int) : Prop where
  len : sz.length = k
  pos : ∀ s ∈ sz, 1 ≤ s
  sum : sz.sum ≤ left
theorem minG_rel {β : Type} [DecidableEq β] [PySem.W.DatumOrd β] {R : β → β → Prop} (hr : ∀ s, R s s) (ht : ∀ s t u, R s t → R t u → R s u) (h1 : ∀ s t : β, PySem.W.DatumOrd.lt s t = true → R s t) (h2 : ∀ s t : β, ¬ PySem.W.DatumOrd.lt s t = true → R t s) {xs : List β} (h : xs ≠ []) : ∃ m ∈ xs, minG xs = some m ∧ ∀ y ∈ xs, R m y := by
  cases xs with
  | nil => exact absurd rfl h
  | cons t ts =>
    refine ⟨PySem.W.minOf t ts, ?_⟩
    have key : PySem.W.minOf t ts ∈ t :: ts ∧ ∀ y ∈ t :: ts, R (PySem.W.minOf t ts) y := by
      unfold PySem.W.minOf
      clear h
      induction ts generalizing t with
      | nil => exact ⟨List.mem_cons_self, fun y hy => by
          rw [List.mem_singleton] at hy
          subst hy
          exact hr _⟩
      | cons y ys ih =>
        rw [List.foldl_cons]
        obtain ⟨i1, i2⟩ := ih (if PySem.W.DatumOrd.lt y t = true then y else t)
        have hd := i2 _ List.mem_cons_self
        generalize List.foldl (fun a y => if PySem.W.DatumOrd.lt y a = true then y else a) (if PySem.W.DatumOrd.lt y t = true then y else t) ys = m at *
        by_cases c : PySem.W.DatumOrd.lt y t = true
        · rw [if_pos c] at i1 i2 hd
          refine ⟨List.mem_cons_of_mem _ i1, fun z hz => ?_⟩
          rcases List.mem_cons.mp hz with e | hz
          · subst e
            exact ht _ _ _ hd (h1 _ _ c)
          · exact i2 z hz
        · rw [if_neg c] at i1 i2 hd
          refine ⟨(List.mem_cons.mp i1).elim (fun e => e ▸ List.mem_cons_self) fun e => List.mem_cons_of_mem _ (List.mem_cons_of_mem _ e), fun z hz => ?_⟩
          rcases List.mem_cons.mp hz with e | hz
          · subst e
            exact hd
          · rcases List.mem_cons.mp hz with e | hz
            · subst e
              exact ht _ _ _ hd (h2 _ _ c)
            · exact i2 z (List.mem_cons_of_mem _ hz)
    exact ⟨key.1, rfl, key.2⟩
/-! one room another -/
theorem sum_set : ∀ {sz : List Int} {i : Nat} {s v : Int}, sz[i]? = some s → (sz.set i v).sum = sz.sum - s + v
  | [], _, _, _, h => by simp at h
  | s0 :: sz, 0, s, v, k => by
    have k := Option.some.inj (show some s0 = some s from k)
    subst k
    rw [List.set_cons_zero, List.sum_cons, List.sum_cons]
    omega
  | s0 :: sz, i + 1, s, v, k => by
    have := sum_set (sz := sz) (i := i) (s := s) (v := v) k
    rw [List.set_cons_succ, List.sum_cons, List.sum_cons]
    omega
theorem Fs.set {k : Nat} {left : Int} {sz : List Int} {i : Nat} {s v : Int} (h : Fs k left sz) (hs : sz[i]? = some s) (hv : 1 ≤ v) (hsum : sz.sum - s + v ≤ left) : Fs k left (sz.set i v) := by
  refine ⟨by rw [List.length_set]; exact h.len, fun x hx => ?_, by rw [sum_set hs]; exact hsum⟩
  rcases List.mem_or_eq_of_mem_set hx with hx | rfl
  · exact h.pos x hx
  · exact hv
end J
namespace J
/-! ### plain: the law's own line of pairs, by the numbers of requests; its own rounds -/
def dueC (s4 : ((List ((Int × Int) × Int)) × (List T4g))) (s10 : Unit) (x12 : (Int × Int)) : Option (Option (Int × (Int × Int)) × Unit) :=
  (J.tget s4.1 x12).bind fun x13 => some (some (x13, x12), ())
def dueB (a1 : Int) (s4 : ((List ((Int × Int) × Int)) × (List T4g))) (x6 : (Int × (Int × Int))) : Option ((List ((Int × Int) × Int)) × (List T4g)) :=
  (J.ifM (J.thas s4.1 x6.2) ( some ("hit" : PySem.Str)) ( some ("fault" : PySem.Str))).bind fun x7 => ((if ((decide (x7 = ("fault" : PySem.Str))) && (decide (((s4.1).length : Int) = a1))) = true then ((J.lcM (dueC s4) (s4.1.map (·.1)) ()).bind fun x14 => (J.minG x14.1).bind fun x15 => ((some x15.2)).bind fun x16 => (J.tget s4.1 x16).bind fun x17 => some ((J.tdrop s4.1 x16), (some x15.2))) else ( some (s4.1, none)) : Option ((List ((Int × Int) × Int)) × (Option (Int × Int))))).bind fun s8 => (J.tputG s8.1 x6.2 x6.1).bind fun x18 => (J.psh s4.2 (PySem.W.T4.mk x7 x6.2.1 x6.2.2 s8.2)).bind fun x19 => some (x18, x19)
theorem tget_some {m : List (P2 × Int)} {p : P2} (h : p ∈ keysT m) : ∃ v, tget m p = some v := by
  have := thas_keys.mpr h
  unfold thas at this
  exact Option.isSome_iff_exists.mp this
theorem tget_put {m : List (P2 × Int)} {k q : P2} {v : Int} : tget (tput m k v) q = if q = k then some v else tget m q := by
  unfold tput
  by_cases c : (m.any fun z => decide (z.1 = k)) = true
  · rw [if_pos c]
    induction m with
    | nil => simp at c
    | cons z m ih =>
      unfold tget at ih ⊢
      rw [List.map_cons, List.find?_cons]
      by_cases d : z.1 = k
      · rw [if_pos d]
        by_cases e : q = k
        · rw [if_pos e, decide_eq_true (show (z.1, v).1 = q by rw [e]; exact d)]
          rfl
        · rw [if_neg e, decide_eq_false (show ¬ (z.1, v).1 = q from fun h => e (h.symm.trans d)), List.find?_cons, decide_eq_false (show ¬ z.1 = q from fun h => e (h.symm.trans d))]
          by_cases c2 : (m.any fun z => decide (z.1 = k)) = true
          · have := ih c2
            rw [if_neg e] at this
            exact this
          · have e3 : (m.map fun z => if z.1 = k then (z.1, v) else z) = m := by
              conv => rhs; rw [← List.map_id m]
              refine List.map_congr_left fun y hy => ?_
              show (if y.1 = k then (y.1, v) else y) = y
              rw [if_neg fun h => c2 (List.any_eq_true.mpr ⟨y, hy, decide_eq_true h⟩)]
            rw [e3]
      · rw [if_neg d]
        have c2 : (m.any fun z => decide (z.1 = k)) = true := by
          rw [List.any_cons, decide_eq_false d, Bool.false_or] at c
          exact c
        have ih := ih c2
        rw [List.find?_cons]
        by_cases e : z.1 = q
        · rw [decide_eq_true e, if_neg fun h => d (e.trans h)]
        · rw [decide_eq_false e]
          exact ih
  · rw [if_neg c]
    unfold tget
    rw [List.find?_append]
    by_cases e : q = k
    · subst e
      have : m.find? (fun z => decide (z.1 = q)) = none := List.find?_eq_none.mpr fun z hz h => c (List.any_eq_true.mpr ⟨z, hz, h⟩)
      rw [if_pos rfl, this, List.find?_cons, decide_eq_true rfl]
      rfl
    · rw [if_neg e, List.find?_cons, decide_eq_false (show ¬ (k, v).1 = q from fun h => e h.symm)]
      simp
theorem tget_drop {m : List (P2 × Int)} {g q : P2} : tget (tdrop m g) q = if q = g then none else tget m q := by
  unfold tget tdrop
  rw [List.find?_filter]
  by_cases e : q = g
  · subst e
    rw [if_pos rfl, List.find?_eq_none.mpr fun z _ h => ?_]
    · rfl
    · simp only [Bool.and_eq_true, decide_eq_true_eq] at h
      exact h.1 h.2
  · rw [if_neg e]
    congr 2
    funext z
    by_cases c : z.1 = q
    · rw [decide_eq_true c, decide_eq_true (show z.1 ≠ g from fun h => e (c.symm.trans h))]
      rfl
    · rw [decide_eq_false c]
      simp
theorem minP {xs : List (Int × P2)} (h : xs ≠ []) : ∃ m ∈ xs, minG xs = some m ∧ ∀ y ∈ xs, m.1 ≤ y.1 := by
  refine minG_rel (R := fun p q : Int × P2 => p.1 ≤ q.1) (fun _ => Int.le_refl _) (fun _ _ _ => Int.le_trans) (fun s t hl => ?_) (fun s t hl => ?_) h
  · have hl : (if s.1 = t.1 then PySem.W.DatumOrd.lt s.2 t.2 else decide (s.1 < t.1)) = true := hl
    split at hl
    · omega
    · have := of_decide_eq_true hl
      omega
  · have hl : ¬ (if s.1 = t.1 then PySem.W.DatumOrd.lt s.2 t.2 else decide (s.1 < t.1)) = true := hl
    split at hl
    · omega
    · rw [decide_eq_true_eq] at hl
      omega
def vT (m : List (P2 × Int)) (p : P2) : Int := (tget m p).getD 0
theorem vT_get {m : List (P2 × Int)} {p : P2} (h : p ∈ keysT m) : tget m p = some (vT m p) := by
  obtain ⟨v, hv⟩ := tget_some h
  unfold vT
  rw [hv]
  rfl
theorem due_run {r : Nat} (hr : 1 ≤ r) : ∀ (l H : List P2) (m : List (P2 × Int)) (fnd : List T4g) (n : Nat), H.Nodup → H.length ≤ r → (keysT m).Nodup → (∀ x, x ∈ keysT m ↔ x ∈ H) → H.Pairwise (fun a b => vT m a < vT m b) → (∀ x ∈ H, vT m x < n) → H.length + l.length ≤ 5000 → fnd.length + l.length ≤ 5000 → ∃ m', forM (dueB (r : Int)) (enu (n : Int) l) (m, fnd) = some (m', fnd ++ runG r H l)
  | [], H, m, fnd, n, _, _, _, _, _, _, _, _ => ⟨m, by rw [show runG r H [] = [] from rfl, List.append_nil]; rfl⟩
  | p :: l, H, m, fnd, n, hn, hl, kn, km, hp, hv, b1, b2 => by
    simp only [List.length_cons] at b1 b2
    have lm : m.length = H.length := by
      have e := len_same kn hn km
      unfold keysT at e
      rwa [List.length_map] at e
    have hitf : (decide (PySem.Str.ofString "hit" = ("fault" : PySem.Str))) = false := by decide
    have ff : (decide (PySem.Str.ofString "fault" = ("fault" : PySem.Str))) = true := decide_eq_true rfl
    have fin : ∀ (m0 : List (P2 × Int)) (H0 : List P2), p ∉ H0 → nxtG r H p = H0 ++ [p] → (∀ x, x ∈ H0 → x ∈ H) → H0.Pairwise (fun a b => vT m a < vT m b) → (∀ x, x ∈ keysT m0 ↔ x ∈ H0 ∨ (x = p ∧ x ∈ keysT m0)) → (keysT m0).Nodup → (∀ x ∈ H0, tget m0 x = tget m x) → m0.length ≤ 5000 →
        (forM (dueB (r : Int)) (enu ((n : Int) + 1) l) (tput m0 p (n : Int), fnd ++ [outG r H p])) = (forM (dueB (r : Int)) (enu (((n + 1 : Nat)) : Int) l) (tput m0 p (n : Int), fnd ++ [outG r H p])) ∧ ∃ m', forM (dueB (r : Int)) (enu (((n + 1 : Nat)) : Int) l) (tput m0 p (n : Int), fnd ++ [outG r H p]) = some (m', fnd ++ runG r H (p :: l)) := fun m0 H0 hpn en hs0 pw0 k0 n0 t0 l0 => by
      refine ⟨by push_cast; rfl, ?_⟩
      have kp : ∀ x, x ∈ keysT (tput m0 p (n : Int)) ↔ x ∈ H0 ++ [p] := fun x => by
        rw [tput_keys, List.mem_append, List.mem_singleton]
        by_cases c : p ∈ keysT m0
        · rw [if_pos c, k0]
          constructor
          · rintro (h | ⟨h, _⟩)
            · exact .inl h
            · exact .inr h
          · rintro (h | rfl)
            · exact .inl h
            · exact .inr ⟨rfl, c⟩
        · rw [if_neg c, List.mem_append, List.mem_singleton, k0]
          constructor
          · rintro ((h | ⟨h, _⟩) | h)
            · exact .inl h
            · exact .inr h
            · exact .inr h
          · rintro (h | h)
            · exact .inl (.inl h)
            · exact .inr h
      have kn2 : (keysT (tput m0 p (n : Int))).Nodup := by
        rw [tput_keys]
        split
        · exact n0
        · rename_i c
          exact nodup_end n0 c
      have v1 : ∀ x ∈ H0, vT (tput m0 p (n : Int)) x = vT m x := fun x hx => by
        unfold vT
        rw [tget_put, if_neg (fun h : x = p => hpn (h ▸ hx)), t0 x hx]
      have v2 : vT (tput m0 p (n : Int)) p = n := by
        unfold vT
        rw [tget_put, if_pos rfl]
        rfl
      have pw : (H0 ++ [p]).Pairwise (fun a b => vT (tput m0 p (n : Int)) a < vT (tput m0 p (n : Int)) b) := by
        refine List.pairwise_append.mpr ⟨List.Pairwise.imp_of_mem (fun {a b} ha hb h => by rw [v1 a ha, v1 b hb]; exact h) pw0, List.pairwise_singleton _ _, fun a ha b hb => ?_⟩
        rw [List.mem_singleton.mp hb, v1 a ha, v2]
        exact hv a (hs0 a ha)
      have nn := nxtG_nodup (r := r) (p := p) hn
      have nl := nxtG_le (p := p) hr hn hl
      have nlen := nxtG_len (r := r) (H := H) (p := p)
      rw [en] at nn nl nlen
      obtain ⟨m', e⟩ := due_run hr l (H0 ++ [p]) (tput m0 p (n : Int)) (fnd ++ [outG r H p]) (n + 1) nn nl kn2 kp pw (fun x hx => by
        rcases List.mem_append.mp hx with h | h
        · rw [v1 x h]
          have := hv x (hs0 x h)
          push_cast
          omega
        · rw [List.mem_singleton.mp h, v2]
          push_cast
          omega) (by omega) (by rw [List.length_append]; simp; omega)
      refine ⟨m', ?_⟩
      rw [e, List.append_assoc]
      show _ = some (m', fnd ++ (outG r H p :: runG r (nxtG r H p) l))
      rw [en]
      rfl
    show ∃ m', ((dueB (r : Int) (m, fnd) ((n : Int), p)).bind (forM (dueB (r : Int)) (enu ((n : Int) + 1) l))) = _
    by_cases c : p ∈ H
    · have ht : thas m p = true := thas_keys.mpr ((km p).mpr c)
      have ho : outG r H p = ⟨"hit", p.1, p.2, none⟩ := if_pos c
      have e1 : dueB (r : Int) (m, fnd) ((n : Int), p) = some (tput m p (n : Int), fnd ++ [outG r H p]) := by
        unfold dueB
        dsimp only
        rw [ht]
        unfold ifM
        rw [if_pos rfl, Option.bind_some, hitf, Bool.false_and, if_neg (by decide), Option.bind_some]
        dsimp only
        unfold tputG
        rw [if_pos (by omega), Option.bind_some, psh_ok (by omega), Option.bind_some, ho]
      obtain ⟨g1, m', g2⟩ := fin m (H.filter fun x => decide (x ≠ p)) (fun h => of_decide_eq_true (List.mem_filter.mp h).2 rfl) (nxtG_hit hn c) (fun x h => (List.mem_filter.mp h).1) (hp.filter _) (fun x => by
        rw [km, List.mem_filter]
        constructor
        · intro h
          by_cases e : x = p
          · exact .inr ⟨e, h⟩
          · exact .inl ⟨h, decide_eq_true e⟩
        · rintro (⟨h, _⟩ | ⟨_, h⟩) <;> exact h) kn (fun _ _ => rfl) (by omega)
      rw [e1, Option.bind_some, g1]
      exact ⟨m', g2⟩
    · have ht : thas m p = false := by
        rw [← Bool.not_eq_true]
        exact fun h => c ((km p).mp (thas_keys.mp h))
      by_cases f : H.length = r
      · cases H with
        | nil => simp at f; omega
        | cons g t =>
          have ho : outG r (g :: t) p = ⟨"fault", p.1, p.2, some g⟩ := by
            unfold outG
            rw [if_neg c, if_pos f]
            rfl
          have cl : lcM (dueC (m, fnd)) (m.map (·.1)) () = some ((keysT m).map fun x => (vT m x, x), ()) := lcM_map (fun x hx => by
            unfold dueC
            dsimp only
            rw [vT_get hx]
            rfl) (by rw [List.length_map]; omega)
          obtain ⟨hp1, hp2⟩ := List.pairwise_cons.mp hp
          obtain ⟨hn1, hn2⟩ := List.nodup_cons.mp hn
          have gk : g ∈ keysT m := (km g).mpr List.mem_cons_self
          obtain ⟨w, hw, ew, hmin⟩ := minP (xs := (keysT m).map fun x => (vT m x, x)) (fun e => by
            have : (vT m g, g) ∈ (keysT m).map fun x => (vT m x, x) := List.mem_map.mpr ⟨g, gk, rfl⟩
            rw [e] at this
            cases this)
          obtain ⟨x, hx, rfl⟩ := List.mem_map.mp hw
          have hg := hmin (vT m g, g) (List.mem_map.mpr ⟨g, gk, rfl⟩)
          have xg : x = g := by
            rcases List.mem_cons.mp ((km x).mp hx) with e | e
            · exact e
            · have := hp1 x e
              dsimp only at hg
              omega
          subst xg
          have e1 : dueB (r : Int) (m, fnd) ((n : Int), p) = some (tput (tdrop m x) p (n : Int), fnd ++ [outG r (x :: t) p]) := by
            unfold dueB
            dsimp only
            rw [ht]
            unfold ifM
            rw [if_neg (by decide), Option.bind_some, ff, Bool.true_and, if_pos (decide_eq_true (by omega)), cl, Option.bind_some]
            dsimp only
            rw [ew, Option.bind_some, Option.bind_some, vT_get gk, Option.bind_some, Option.bind_some]
            dsimp only
            unfold tputG
            rw [if_pos (by unfold tdrop; have := List.length_filter_le (fun q : P2 × Int => decide (q.1 ≠ x)) m; omega), Option.bind_some, psh_ok (by omega), Option.bind_some, ho]
          obtain ⟨g1, m', g2⟩ := fin (tdrop m x) t (fun h => c (List.mem_cons_of_mem _ h)) (by rw [nxtG_miss c, if_pos f]; rfl) (fun z h => List.mem_cons_of_mem _ h) hp2 (fun z => by
            rw [tdrop_keys, List.mem_filter, km, List.mem_cons]
            constructor
            · rintro ⟨h, h'⟩
              exact .inl (h.resolve_left (of_decide_eq_true h'))
            · rintro (h | ⟨rfl, h, h'⟩)
              · exact ⟨.inr h, decide_eq_true fun e => hn1 (e ▸ h)⟩
              · exact ⟨h, h'⟩) (by rw [tdrop_keys]; exact kn.filter _) (fun z hz => by rw [tget_drop, if_neg (fun e : z = x => hn1 (e ▸ hz))]) (by unfold tdrop; have := List.length_filter_le (fun q : P2 × Int => decide (q.1 ≠ x)) m; omega)
          rw [e1, Option.bind_some, g1]
          exact ⟨m', g2⟩
      · have ho : outG r H p = ⟨"fault", p.1, p.2, none⟩ := by
          unfold outG
          rw [if_neg c, if_neg f]
        have e1 : dueB (r : Int) (m, fnd) ((n : Int), p) = some (tput m p (n : Int), fnd ++ [outG r H p]) := by
          unfold dueB
          dsimp only
          rw [ht]
          unfold ifM
          rw [if_neg (by decide), Option.bind_some, ff, Bool.true_and, if_neg (by simp; omega), Option.bind_some]
          dsimp only
          unfold tputG
          rw [if_pos (by omega), Option.bind_some, psh_ok (by omega), Option.bind_some, ho]
        obtain ⟨g1, m', g2⟩ := fin m H c (by rw [nxtG_miss c, if_neg f]) (fun _ h => h) hp (fun x => by
          rw [km]
          exact ⟨.inl, fun h => h.elim id fun h => h.2⟩) kn (fun _ _ => rfl) (by omega)
        rw [e1, Option.bind_some, g1]
        exact ⟨m', g2⟩
end J
namespace J
/-! ### plain: the law's own rounds -/
def lrC0 (s1 : Unit) (x3 : (List Int)) : Option (Option Int × Unit) :=
   some (some 0, ())
def lrC1 (a0 : (List (List Int))) (s7 : ((List Int) × (List (Int × Int)))) (s10 : Unit) (x12 : Int) : Option (Option Int × Unit) :=
  (J.gx s7.1 x12).bind fun x13 => (J.gx a0 x12).bind fun x14 => if (decide (x13 < ((x14).length : Int))) = true then  some (some x12, ()) else some (none, ())
def lrB2 (x19 : Int) (s23 : (List (Int × Int))) (x25 : Int) : Option (List (Int × Int)) :=
  (J.psh s23 (x19, x25)).bind fun x26 => some x26
def lrB3 (a0 : (List (List Int))) (a1 : Int) (s17 : ((List Int) × (List (Int × Int)))) (x19 : Int) : Option ((List Int) × (List (Int × Int))) :=
  (J.gx a0 x19).bind fun x20 => (J.gx s17.1 x19).bind fun x21 => (J.gx s17.1 x19).bind fun x22 => (J.forM (lrB2 x19) (J.slc x20 (some x21) (some (x22 + a1))) s17.2).bind fun s27 => (J.gx s17.1 x19).bind fun x28 => (J.stx s17.1 x19 (x28 + a1)).bind fun x29 => some (x29, s27)
def lrT4 (a0 : (List (List Int))) (s7 : ((List Int) × (List (Int × Int)))) : Option Bool :=
  (J.rngG ((a0).length : Int)).bind fun x9 => (J.lcM (lrC1 a0 s7) x9 ()).bind fun x15 => some (decide (x15.1 ≠ ([] : List Int)))
def lrW5 (a0 : (List (List Int))) (a1 : Int) (s7 : ((List Int) × (List (Int × Int)))) : Option ((List Int) × (List (Int × Int))) :=
  (J.rngG ((a0).length : Int)).bind fun x16 => (J.forM (lrB3 a0 a1) x16 (s7.1, s7.2)).bind fun s30 => some (s30.1, s30.2)
def lrO (a0 : (List (List Int))) (a1 : Int) : Option (List (Int × Int)) :=
  (J.lcM (lrC0) a0 ()).bind fun x4 => (J.whileM (lrT4 a0) (lrW5 a0 a1) 1000000 (x4.1, ([] : List (Int × Int)))).bind fun s31 => some s31.2
theorem rngA {lo : Int} {n i : Nat} (h : i < n) : (rng lo n)[i]? = some (lo + i) := by
  unfold rng
  rw [List.getElem?_map, List.getElem?_range h]
  rfl
theorem chunk_far {b t : Nat} : ∀ {lot : List (List Int)} {i : Int}, mxl lot ≤ b → chunk i b t lot = []
  | [], _, _ => rfl
  | tr :: lot, i, h => by
    have h : max tr.length (mxl lot) ≤ b := h
    rw [chunk_cons, List.drop_eq_nil_of_le (by omega), chunk_far (by omega)]
    simp
theorem rounds_more {lot : List (List Int)} {t r : Nat} (h : mxl lot ≤ r * t) : ∀ d, rounds lot t (r + d) = rounds lot t r
  | 0 => rfl
  | d + 1 => by
    have ih := rounds_more h d
    unfold rounds at ih ⊢
    rw [show r + (d + 1) = r + d + 1 from rfl, List.range_succ, List.flatMap_append, ih, List.flatMap_singleton, chunk_far (Nat.le_trans h (Nat.mul_le_mul_right t (by omega))), List.append_nil]
theorem rounds_same {lot : List (List Int)} {t r k : Nat} (h : mxl lot ≤ r * t) (h2 : mxl lot ≤ k * t) : rounds lot t r = rounds lot t k := by
  rcases Nat.le_total r k with z | z
  · have := rounds_more h (k - r)
    rw [show r + (k - r) = k by omega] at this
    exact this.symm
  · have := rounds_more h2 (r - k)
    rw [show k + (r - k) = r by omega] at this
    exact this
theorem rounds_le {lot : List (List Int)} {t : Nat} (ht : 1 ≤ t) {i : Nat} (B : Nat) (hs : ∀ tr ∈ lot, tr.length ≤ B) : (rounds lot t i).length ≤ B * lot.length := by
  have mono : ∀ d, (rounds lot t i).length ≤ (rounds lot t (i + d)).length := fun d => by
    induction d with
    | zero => exact Nat.le_refl _
    | succ d ih =>
      refine Nat.le_trans ih ?_
      unfold rounds
      rw [show i + (d + 1) = i + d + 1 from rfl, List.range_succ, List.flatMap_append, List.length_append]
      omega
  have h1 := mono (mxl lot)
  have h2 := rounds_len (lot := lot) (t := t) (K := i + mxl lot) fun tr htr => Nat.le_trans (mxl_le htr) (by
    have : mxl lot * 1 ≤ (i + mxl lot) * t := Nat.mul_le_mul (by omega) ht
    omega)
  have h3 : ∀ {l : List (List Int)}, (∀ tr ∈ l, tr.length ≤ B) → (l.map fun tr => (tr.length : Int)).sum ≤ (B : Int) * l.length := fun {l} => by
    induction l with
    | nil => intro _; simp
    | cons tr l ih =>
      intro h
      have := ih fun x hx => h x (List.mem_cons_of_mem _ hx)
      have := h tr List.mem_cons_self
      rw [List.map_cons, List.sum_cons, List.length_cons]
      push_cast
      rw [Int.mul_add, Int.mul_one]
      omega
  have h4 := h3 hs
  have : ((B * lot.length : Nat) : Int) = (B : Int) * lot.length := by push_cast; rfl
  omega
def atL (n : Nat) (c : Int) : List Int := (List.range n).map fun _ => c
theorem lrW_ok {lot : List (List Int)} {t i : Nat} (ht : 1 ≤ t) (hl : lot.length ≤ 100) (hs : ∀ tr ∈ lot, tr.length ≤ 200) : lrW5 lot (t : Int) (atL lot.length ((i * t : Nat) : Int), rounds lot t i) = some (atL lot.length (((i + 1) * t : Nat) : Int), rounds lot t (i + 1)) := by
  unfold lrW5
  rw [rngG_ok (by omega), Option.bind_some, Int.toNat_natCast]
  have bound : ∀ j, (rounds lot t i ++ chunk 0 (i * t) t (lot.take j)).length ≤ 60000 := fun j => by
    have h1 := rounds_le (lot := lot) (i := i + 1) ht 200 hs
    have e : rounds lot t (i + 1) = rounds lot t i ++ chunk 0 (i * t) t lot := by
      unfold rounds
      rw [List.range_succ, List.flatMap_append, List.flatMap_singleton]
    rw [e, List.length_append] at h1
    have e2 : chunk 0 (i * t) t lot = chunk 0 (i * t) t (lot.take j) ++ chunk (0 + (lot.take j).length) (i * t) t (lot.drop j) := by
      rw [← chunk_append, List.take_append_drop]
    rw [e2, List.length_append] at h1
    rw [List.length_append]
    omega
  have key := forM_idx (f := lrB3 lot (t : Int)) (fun j => ((List.range lot.length).map fun m => if m < j then (((i + 1) * t : Nat) : Int) else ((i * t : Nat) : Int), rounds lot t i ++ chunk 0 (i * t) t (lot.take j))) (xs := rng 0 lot.length) (k := 0) fun j x hx => by
    have hj : j < lot.length := by
      have := (List.getElem?_eq_some_iff.mp hx).1
      rwa [rng_len] at this
    rw [rngA hj, Int.zero_add] at hx
    cases hx
    rw [Nat.zero_add]
    have hb := bound (j + 1)
    have ck : chunk 0 (i * t) t (lot.take (j + 1)) = chunk 0 (i * t) t (lot.take j) ++ ((lot[j].drop (i * t)).take t).map fun p => (((j : Nat) : Int), p) := by
      rw [List.take_succ_eq_append_getElem hj, chunk_append, List.length_take, chunk_cons, show min j lot.length = j by omega, Int.zero_add]
      show _ ++ (_ ++ []) = _
      rw [List.append_nil]
    unfold lrB3
    dsimp only
    have g1 : gx ((List.range lot.length).map fun m => if m < j then (((i + 1) * t : Nat) : Int) else ((i * t : Nat) : Int)) (j : Int) = some ((i * t : Nat) : Int) := by
      rw [gx_range hj, if_neg (Nat.lt_irrefl _)]
    rw [gx_nat (by omega), Int.toNat_natCast, List.getElem?_eq_getElem hj, Option.bind_some, g1, Option.bind_some, Option.bind_some, slc_part]
    rw [ck, ← List.append_assoc, List.length_append, List.length_map] at hb
    rw [forM_map (f := lrB2 (j : Int)) (g := fun p : Int => (((j : Nat) : Int), p)) (fun s x _ hs2 => by
      unfold lrB2
      rw [psh_ok hs2]
      rfl) (by omega), Option.bind_some, Option.bind_some]
    have st : stx ((List.range lot.length).map fun m => if m < j then (((i + 1) * t : Nat) : Int) else ((i * t : Nat) : Int)) (j : Int) (((i * t : Nat) : Int) + (t : Int)) = some ((List.range lot.length).map fun m => if m < j + 1 then (((i + 1) * t : Nat) : Int) else ((i * t : Nat) : Int)) := by
      rw [stx_in (by omega) (by rw [List.length_map, List.length_range]; omega), Int.toNat_natCast, set_range]
      congr 1
      refine List.map_congr_left fun m _ => ?_
      by_cases e : m = j
      · subst e
        rw [if_pos rfl, if_pos (by omega), Nat.succ_mul]
        push_cast
        rfl
      · rw [if_neg e]
        by_cases e2 : m < j
        · rw [if_pos e2, if_pos (by omega)]
        · rw [if_neg e2, if_neg (by omega)]
    rw [st, Option.bind_some, ck, ← List.append_assoc]
  rw [rng_len, Nat.zero_add] at key
  have e0 : ((List.range lot.length).map fun m => if m < 0 then (((i + 1) * t : Nat) : Int) else ((i * t : Nat) : Int)) = atL lot.length ((i * t : Nat) : Int) := List.map_congr_left fun m _ => if_neg (Nat.not_lt_zero _)
  have e1 : ((List.range lot.length).map fun m => if m < lot.length then (((i + 1) * t : Nat) : Int) else ((i * t : Nat) : Int)) = atL lot.length (((i + 1) * t : Nat) : Int) := List.map_congr_left fun m hm => if_pos (List.mem_range.mp hm)
  have e2 : rounds lot t i ++ chunk 0 (i * t) t (lot.take 0) = rounds lot t i := by
    show _ ++ [] = _
    rw [List.append_nil]
  have e3 : rounds lot t i ++ chunk 0 (i * t) t (lot.take lot.length) = rounds lot t (i + 1) := by
    rw [List.take_length]
    unfold rounds
    rw [List.range_succ, List.flatMap_append, List.flatMap_singleton]
  rw [e0, e1, e2, e3] at key
  dsimp only
  rw [key]
  rfl
theorem lrT_ok {lot : List (List Int)} {t i : Nat} {f : List (Int × Int)} (hl : lot.length ≤ 100) : lrT4 lot (atL lot.length ((i * t : Nat) : Int), f) = some (decide (i * t < mxl lot)) := by
  unfold lrT4
  rw [rngG_ok (by omega), Option.bind_some, Int.toNat_natCast]
  rw [lcM_fm (g := fun k : Int => if i * t < (lot.getD k.toNat []).length then some k else none) (fun k hk => by
    have hk := rng_mem hk
    obtain ⟨j, rfl⟩ : ∃ j : Nat, k = j := ⟨k.toNat, by omega⟩
    have hj : j < lot.length := by omega
    unfold lrC1 atL
    dsimp only
    rw [gx_range hj, Option.bind_some, gx_nat (by omega), Int.toNat_natCast, List.getElem?_eq_getElem hj, Option.bind_some, List.getD_eq_getElem?_getD, List.getElem?_eq_getElem hj]
    by_cases c : i * t < lot[j].length
    · rw [if_pos (decide_eq_true (by omega))]
      show _ = some (if i * t < lot[j].length then some (j : Int) else none, ())
      rw [if_pos c]
    · rw [if_neg (by simp; omega)]
      show _ = some (if i * t < lot[j].length then some (j : Int) else none, ())
      rw [if_neg c]) (by rw [rng_len]; omega), Option.bind_some]
  congr 1
  rw [decide_eq_decide]
  dsimp only
  constructor
  · intro h
    refine Classical.byContradiction fun n => h ?_
    refine List.filterMap_eq_nil_iff.mpr fun k hk => ?_
    have hk := rng_mem hk
    rw [if_neg]
    intro z
    have : lot.getD k.toNat [] ∈ lot := by
      rw [List.getD_eq_getElem?_getD, List.getElem?_eq_getElem (show k.toNat < lot.length by omega)]
      exact List.getElem_mem _
    have := mxl_le this
    omega
  · intro h e
    have hne : lot ≠ [] := fun z => by rw [z] at h; exact absurd h (Nat.not_lt_zero _)
    obtain ⟨tr, htr, em⟩ := mxl_at hne
    obtain ⟨j, hj⟩ := List.mem_iff_getElem?.mp htr
    have hj2 := (List.getElem?_eq_some_iff.mp hj).1
    have := List.filterMap_eq_nil_iff.mp e (j : Int) (List.mem_of_getElem? (by rw [rngA hj2, Int.zero_add]))
    rw [Int.toNat_natCast, List.getD_eq_getElem?_getD, hj] at this
    have this : (if i * t < tr.length then some (j : Int) else none) = none := this
    rw [if_pos (by omega)] at this
    cases this
theorem lr_while {lot : List (List Int)} {t : Nat} (ht : 1 ≤ t) (hl : lot.length ≤ 100) (hs : ∀ tr ∈ lot, tr.length ≤ 200) : ∀ (n i : Nat), mxl lot ≤ (i + n) * t → ∃ r, mxl lot ≤ r * t ∧ whileM (lrT4 lot) (lrW5 lot (t : Int)) (n + 1) (atL lot.length ((i * t : Nat) : Int), rounds lot t i) = some (atL lot.length ((r * t : Nat) : Int), rounds lot t r)
  | n, i, h => by
    show ∃ r, _ ∧ ((lrT4 lot (atL lot.length ((i * t : Nat) : Int), rounds lot t i)).bind fun b => if b = true then (lrW5 lot (t : Int) (atL lot.length ((i * t : Nat) : Int), rounds lot t i)).bind (whileM (lrT4 lot) (lrW5 lot (t : Int)) n) else some (atL lot.length ((i * t : Nat) : Int), rounds lot t i)) = _
    rw [lrT_ok hl, Option.bind_some]
    by_cases c : i * t < mxl lot
    · rw [if_pos (decide_eq_true c), lrW_ok ht hl hs, Option.bind_some]
      cases n with
      | zero => rw [Nat.add_zero] at h; omega
      | succ n => exact lr_while ht hl hs n (i + 1) (by rw [show i + 1 + n = i + (n + 1) by omega]; exact h)
    · rw [if_neg (by simpa using c)]
      exact ⟨i, by omega, rfl⟩
theorem lrO_ok {lot : List (List Int)} {t : Nat} (ht : 1 ≤ t) (hl : lot.length ≤ 100) (hs : ∀ tr ∈ lot, tr.length ≤ 200) : lrO lot (t : Int) = some (rounds lot t (Kof (mxl lot) t)) := by
  have hm := mxl_bound hs
  unfold lrO
  rw [lcM_map (g := fun _ : List Int => (0 : Int)) (fun _ _ => rfl) (by omega), Option.bind_some]
  have e0 : (lot.map fun _ => (0 : Int)) = atL lot.length ((0 * t : Nat) : Int) := by
    unfold atL
    rw [Nat.zero_mul]
    apply List.ext_getElem
    · rw [List.length_map, List.length_map, List.length_range]
    · intro i h1 h2
      rw [List.getElem_map, List.getElem_map]
      rfl
  obtain ⟨r, h1, h2⟩ := lr_while ht hl hs 999999 0 (by
    have : 200 * 1 ≤ (0 + 999999) * t := Nat.mul_le_mul (by omega) ht
    omega)
  have h2 : whileM (lrT4 lot) (lrW5 lot (t : Int)) 1000000 (lot.map fun _ => (0 : Int), []) = some (atL lot.length ((r * t : Nat) : Int), rounds lot t r) := by
    rw [e0]
    exact h2
  dsimp only
  rw [h2, Option.bind_some, rounds_same h1 (Kof_ge ht)]
end J
namespace J
open PySem
/-! ### plain: short data has a text -/
structure OkD (n dp : Nat) (d : PyData) : Prop where
  sh : d.showable = true
  nd : d.hasDict = false
  lf : d.leavesShort 30 = true
  dp : d.depth ≤ dp
  bk : d.bulk ≤ n
theorem OkD.mono {n m k l : Nat} {d : PyData} (h : OkD n k d) (e : n ≤ m) (f : k ≤ l) : OkD m l d := ⟨h.sh, h.nd, h.lf, Nat.le_trans h.dp f, Nat.le_trans h.bk e⟩
theorem okd_int {i : Int} (h1 : -(10 ^ 20) < i) (h2 : i < 10 ^ 20) : OkD 0 0 (.int i) := by
  refine ⟨?_, rfl, ?_, Nat.le_refl _, Nat.le_refl _⟩
  · unfold PyData.showable
    refine decide_eq_true ?_
    by_cases z : i.natAbs = 0
    · rw [z]
      decide
    · have : i.natAbs < 2 ^ 1920 := Nat.lt_of_lt_of_le (m := 10 ^ 20) (by omega) (by decide +kernel)
      exact (Nat.log2_lt z).mpr this
  · have e := int_text_length_le10 (a := i) (k := 20) (by decide) (by omega)
    unfold PyData.leavesShort
    refine decide_eq_true ?_
    show (Str.ofString (toString i)).length ≤ 30
    rw [ofString_length]
    omega
theorem okd_none : OkD 0 0 .none := ⟨rfl, rfl, rfl, Nat.le_refl _, Nat.le_refl _⟩
theorem okd_all {n dp : Nat} : ∀ {xs : List PyData}, (∀ x ∈ xs, OkD n dp x) → PyData.showableAll xs = true ∧ PyData.hasDictAll xs = false ∧ PyData.leavesShortAll 30 xs = true ∧ PyData.depthAll xs ≤ dp ∧ PyData.bulkAll xs ≤ (n + 1) * xs.length
  | [], _ => ⟨rfl, rfl, rfl, Nat.zero_le _, Nat.zero_le _⟩
  | x :: xs, h => by
    obtain ⟨h1, h2, h3, h4, h5⟩ := okd_all (xs := xs) fun y hy => h y (List.mem_cons_of_mem _ hy)
    have hx := h x List.mem_cons_self
    refine ⟨?_, ?_, ?_, ?_, ?_⟩
    · show (x.showable && _) = true
      rw [hx.sh, h1]
      rfl
    · show (x.hasDict || _) = false
      rw [hx.nd, h2]
      rfl
    · show (x.leavesShort 30 && _) = true
      rw [hx.lf, h3]
      rfl
    · show max _ _ ≤ dp
      have := hx.dp
      omega
    · show x.bulk + 1 + PyData.bulkAll xs ≤ _
      have := hx.bk
      rw [List.length_cons, Nat.mul_add, Nat.mul_one]
      omega
theorem okd_list {n dp : Nat} {xs : List PyData} (h : ∀ x ∈ xs, OkD n dp x) : OkD ((n + 1) * xs.length) (dp + 1) (.list xs) := by
  obtain ⟨h1, h2, h3, h4, h5⟩ := okd_all h
  exact ⟨by simpa only [PyData.showable] using h1, by simpa only [PyData.hasDict] using h2, by simpa only [PyData.leavesShort] using h3, by simp only [PyData.depth]; omega, by simpa only [PyData.bulk] using h5⟩
theorem okd_tuple {n dp : Nat} {xs : List PyData} (h : ∀ x ∈ xs, OkD n dp x) : OkD ((n + 1) * xs.length) (dp + 1) (.tuple xs) := by
  obtain ⟨h1, h2, h3, h4, h5⟩ := okd_all h
  exact ⟨by simpa only [PyData.showable] using h1, by simpa only [PyData.hasDict] using h2, by simpa only [PyData.leavesShort] using h3, by simp only [PyData.depth]; omega, by simpa only [PyData.bulk] using h5⟩
theorem okd_list' {n dp N D : Nat} {xs : List PyData} (h : ∀ x ∈ xs, OkD n dp x) (hN : (n + 1) * xs.length ≤ N) (hD : dp + 1 ≤ D) : OkD N D (.list xs) := (okd_list h).mono hN hD
theorem okd_tuple' {n dp N D : Nat} {xs : List PyData} (h : ∀ x ∈ xs, OkD n dp x) (hN : (n + 1) * xs.length ≤ N) (hD : dp + 1 ≤ D) : OkD N D (.tuple xs) := (okd_tuple h).mono hN hD
theorem reprG_ok {n dp : Nat} {d : PyData} (h : OkD n dp d) (hd : isDsp d = true) (hn : n ≤ 500000) (hp : dp ≤ 30) : reprG d = some d.shown := by
  have hl := PyData.shown_le_bulk 30 (by decide) d h.lf
  have hb := h.bk
  have hdp := h.dp
  have hs : d.shown.length ≤ sizeLine := by
    have : sizeLine = 16777216 := rfl
    omega
  unfold reprG
  rw [hd, h.sh, h.nd, decide_eq_true (show d.depth ≤ 30 by omega), decide_eq_true hs]
  rfl
end J
namespace Gk60
open J
theorem slc_drop {α : Type} {xs : List α} {lo : Int} (h : 0 ≤ lo) : slc xs (some lo) none = xs.drop lo.toNat := by
  have e1 : sx xs.length xs.length none = xs.length := rfl
  have e2 : sx xs.length 0 (some lo) = min lo.toNat xs.length := by
    show (if lo < 0 then _ else _) = _
    rw [if_neg (by omega)]
  unfold slc
  rw [e1, e2]
  by_cases hl : lo.toNat ≤ xs.length
  · rw [Nat.min_eq_left hl]
    exact List.take_of_length_le (by rw [List.length_drop]; omega)
  · rw [Nat.min_eq_right (by omega), List.drop_eq_nil_of_le (Nat.le_refl _), List.drop_eq_nil_of_le (by omega)]
    simp
theorem slc_take {α : Type} {xs : List α} {hi : Int} (h : 0 ≤ hi) : slc xs none (some hi) = xs.take hi.toNat := by
  have e1 : sx xs.length xs.length (some hi) = min hi.toNat xs.length := by
    show (if hi < 0 then _ else _) = _
    rw [if_neg (by omega)]
  have e2 : sx xs.length 0 none = 0 := rfl
  unfold slc
  rw [e1, e2, List.drop_zero, Nat.sub_zero]
  by_cases hl : hi.toNat ≤ xs.length
  · rw [Nat.min_eq_left hl]
  · rw [Nat.min_eq_right (by omega), List.take_of_length_le (Nat.le_refl _), List.take_of_length_le (by omega)]
/-! ### the draws -/
structure Bg (N fold turn : Int) (great : List Int) : Prop where
  f0 : 0 ≤ fold
  f1 : fold < 2305843009213693951
  t0 : 0 ≤ turn
  t1 : turn ≤ N
  few : great.length ≤ 63
theorem Bg.mono {N M fold turn : Int} {great : List Int} (h : Bg N fold turn great) (e : N ≤ M) : Bg M fold turn great := ⟨h.f0, h.f1, h.t0, Int.le_trans h.t1 e, h.few⟩
theorem bag_ok {ns : List Int} (hl : ns.length ≤ 63) : Tot (m_law_bag ns) fun r => Bg 0 r.2.1 r.2.2 r.1 := by
  unfold m_law_bag
  refine tot_bind (tot_forB (I := fun k s => (0 ≤ s.2 ∧ s.2 < 2305843009213693951) ∧ s.1.length ≤ k) (K := ns.length) (k := 0) ⟨by dsimp only; omega, Nat.le_refl _⟩ (Nat.zero_add _) fun k s x _ hk hI => ?_) fun s hs => ?_
  · obtain ⟨h1, h2⟩ := hI
    unfold m_law_bag_b0
    refine tot_bind (P := fun _ => True) (tot_ite (fun _ => tot_some trivial) fun _ => tot_some trivial) fun z _ => ?_
    refine tot_let ?_
    refine tot_bind (P := fun l : List Int => l.length ≤ k + 1) (tot_ite (fun c => ?_) fun c => tot_some (by omega)) fun l hl => ?_
    · rw [psh_ok (by omega)]
      exact tot_some (by simp; omega)
    · exact tot_some ⟨⟨Int.emod_nonneg _ (by omega), Int.emod_lt_of_pos _ (by omega)⟩, hl⟩
  · obtain ⟨h1, h2⟩ := hs
    exact tot_some ⟨h1.1, h1.2, by dsimp only; omega, by dsimp only; omega, by dsimp only; omega⟩
theorem pop0 : ∀ (n : Nat) (g : List Int), g.length < n → g.length ≤ 63 → Tot (whileM m_law_draw_t0 m_law_draw_w1 n g) fun s => s.length ≤ 63
  | 0, g, h, _ => absurd h (by omega)
  | n + 1, [], _, h => ⟨[], rfl, h⟩
  | n + 1, x :: g, h1, h2 => by
    have e : m_law_draw_t0 (x :: g) = some (decide (x = 0)) := rfl
    show Tot ((m_law_draw_t0 (x :: g)).bind _) _
    rw [e]
    refine tot_let (tot_ite (fun c => ?_) fun c => tot_some h2)
    have e2 : m_law_draw_w1 (x :: g) = some g := by
      unfold m_law_draw_w1 popG
      rw [if_pos (by omega)]
      have : ixp (x :: g).length 0 = some 0 := by unfold ixp; simp
      rw [this]
      rfl
    rw [e2]
    simp only [List.length_cons] at h1 h2
    exact tot_let (pop0 n g (by omega) (by omega))
theorem draw_ok {N fold turn many : Int} {great : List Int} (h : Bg N fold turn great) (hm : 1 ≤ many ∧ many < 2000000000000) (hN : N < 1000000) : Tot (m_law_draw many great fold turn) fun r => (0 ≤ r.1 ∧ r.1 < many) ∧ Bg (N + 1) fold r.2.1 r.2.2 := by
  unfold m_law_draw
  obtain ⟨f0, f1, t0, t1, few⟩ := h
  refine tot_bind (pop0 _ great (by omega) few) fun s hs => ?_
  refine tot_ite (fun c => ?_) fun c => ?_
  · have hne : s ≠ [] := of_decide_eq_true c
    obtain ⟨x, s, rfl⟩ := List.exists_cons_of_ne_nil hne
    have e : gx (x :: s) 0 = some x := rfl
    rw [e, Option.bind_some, modG_ok (by omega), Option.bind_some, Option.bind_some, divG_ok (by omega), Option.bind_some]
    have : stx (x :: s) 0 (x / many) = some ((x / many) :: s) := by
      unfold stx
      have : ixp (x :: s).length 0 = some 0 := by unfold ixp; simp
      rw [this]
      rfl
    rw [this]
    exact tot_some ⟨⟨Int.emod_nonneg _ (by omega), Int.emod_lt_of_pos _ (by omega)⟩, f0, f1, by dsimp only; omega, by dsimp only; omega, hs⟩
  · rw [powG_ok (by omega), Option.bind_some, mulG_ok (.inl (by omega)), Option.bind_some, Option.bind_some]
    have hmod : ∀ z : Int, (z % (2305843009213693952 - 1)).natAbs < 18446744073709551616 := fun z => by
      have := Int.emod_nonneg z (b := 2305843009213693952 - 1) (by omega)
      have := Int.emod_lt_of_pos z (b := 2305843009213693952 - 1) (by omega)
      omega
    rw [powG_ok (hmod _), Option.bind_some, modG_ok (by omega)]
    exact tot_some ⟨⟨Int.emod_nonneg _ (by omega), Int.emod_lt_of_pos _ (by omega)⟩, f0, f1, by dsimp only; omega, by dsimp only; omega, hs⟩
theorem pages_ok {N fold turn : Int} {great : List Int} (h : Bg N fold turn great) (hN : N < 100000) : Tot (m_law_pages great fold turn) fun r => (r.1.length = 9 ∧ ∀ p ∈ r.1, 0 ≤ p ∧ p < 1000000000000) ∧ Bg (N + 2) fold r.2.1 r.2.2 := by
  unfold m_law_pages
  refine tot_bind (draw_ok h (by omega) (by omega)) fun r hr => ?_
  obtain ⟨⟨r0, r1⟩, hb⟩ := hr
  refine tot_let (tot_bind (draw_ok hb (by omega) (by omega)) fun q hq => ?_)
  obtain ⟨⟨q0, q1⟩, hb⟩ := hq
  rw [slc_drop q0, slc_take q0, catG_ok (by simp; omega)]
  refine tot_some ⟨⟨?_, fun p hp => ?_⟩, hb.mono (by omega)⟩
  · simp
    omega
  · have hp : p ∈ ([0, 1, 2, 9, 10, 100, (1000000000 - 1), 1000000000, (11 + r.1)] : List Int) := by
      rcases List.mem_append.mp hp with z | z
      · exact List.mem_of_mem_drop z
      · exact List.mem_of_mem_take z
    simp only [List.mem_cons, List.not_mem_nil, or_false] at hp
    rcases hp with rfl | rfl | rfl | rfl | rfl | rfl | rfl | rfl | rfl <;> omega
theorem line_ok {N fold turn a1 : Int} {great : List Int} (h : Bg N fold turn great) (ha : 0 ≤ a1 ∧ a1 ≤ 200) (hN : N < 100000) : Tot (m_law_line a1 great fold turn) fun r => (r.1.length ≤ 200 ∧ ∀ p ∈ r.1, 0 ≤ p ∧ p < 1000000000000) ∧ Bg (N + 1000) fold r.2.1 r.2.2 := by
  unfold m_law_line
  refine tot_bind (pages_ok h (by omega)) fun x1 h1 => ?_
  obtain ⟨⟨hp, hpb⟩, hb⟩ := h1
  refine tot_bind (draw_ok hb (by omega) (by omega)) fun x2 h2 => ?_
  obtain ⟨⟨r0, r1⟩, hb⟩ := h2
  refine tot_bind (draw_ok hb (by omega) (by omega)) fun x3 h3 => ?_
  obtain ⟨_, hb⟩ := h3
  refine tot_bind (P := fun s : Int × (List Int × (List Int × Int)) => (1 ≤ s.2.2.2 ∧ s.2.2.2 ≤ s.2.2.1.length ∧ s.2.2.1.length ≤ 100 ∧ ∀ p ∈ s.2.2.1, 0 ≤ p ∧ p < 1000000000000) ∧ Bg (N + 10) fold s.1 s.2.1) (tot_ite (fun c => ?_) fun c => tot_some ⟨⟨by dsimp only; omega, by dsimp only; omega, by dsimp only; omega, hpb⟩, hb.mono (by omega)⟩) fun s hs => ?_
  · refine tot_bind (draw_ok hb (by omega) (by omega)) fun x6 h6 => ?_
    obtain ⟨⟨v0, v1⟩, hb⟩ := h6
    refine tot_bind (draw_ok hb (by omega) (by omega)) fun x7 h7 => ?_
    obtain ⟨⟨q0, q1⟩, hb⟩ := h7
    refine tot_bind (draw_ok hb (by omega) (by omega)) fun x8 h8 => ?_
    obtain ⟨⟨u0, u1⟩, hb⟩ := h8
    rw [rngG_ok (by omega)]
    refine tot_let ?_
    rw [lcM_map (g := fun k : Int => x6.1 + (1 + x7.1) * k) (fun k hk => ?_) (by rw [rng_len]; omega)]
    · refine tot_let (tot_some ⟨?_, hb.mono (by omega)⟩)
      dsimp only
      rw [List.length_map, rng_len]
      refine ⟨by omega, by omega, by omega, fun p hp => ?_⟩
      obtain ⟨k, hk, rfl⟩ := List.mem_map.mp hp
      have hk := rng_mem hk
      have m1 : 0 ≤ (1 + x7.1) * k := Int.mul_nonneg (by omega) (by omega)
      have m2 : (1 + x7.1) * k ≤ 1000000 * 100 := Int.mul_le_mul (by omega) (by omega) (by omega) (by omega)
      omega
    · unfold m_law_line_c0
      rw [mulG_ok (.inl (by omega))]
      rfl
  · obtain ⟨⟨m1, m2, m3, m4⟩, hb⟩ := hs
    refine tot_bind (draw_ok hb (by omega) (by omega)) fun x15 h15 => ?_
    obtain ⟨⟨k0, k1⟩, hb⟩ := h15
    refine tot_bind (draw_ok hb (by omega) (by omega)) fun x17 h17 => ?_
    obtain ⟨⟨n0, n1⟩, hb⟩ := h17
    rw [rngG_ok (by omega)]
    refine tot_let ?_
    refine tot_bind (tot_forB (I := fun k z => Bg (N + 12 + 4 * k) fold z.1 z.2.1 ∧ z.2.2.length = k ∧ ∀ p ∈ z.2.2, 0 ≤ p ∧ p < 1000000000000) (K := x17.1.toNat) (k := 0) ⟨hb.mono (by omega), rfl, fun p h => nomatch h⟩ (by rw [rng_len]; omega) fun k z x hx hk2 hI => ?_) fun z hz => ?_
    · obtain ⟨hb, hk, hkb⟩ := hI
      have hx2 := rng_mem hx
      unfold m_law_line_b1
      refine tot_bind (draw_ok hb (by omega) (by omega)) fun u hu => ?_
      obtain ⟨⟨u0, u1⟩, hb⟩ := hu
      refine tot_bind (draw_ok hb (by omega) (by omega)) fun v hv => ?_
      obtain ⟨⟨v0, v1⟩, hb⟩ := hv
      rw [modG_ok (by omega), modG_ok (by omega)]
      refine tot_let (tot_let ?_)
      obtain ⟨t, ht, e⟩ := gx_ok (xs := ([u.1, v.1, x % s.2.2.2, x / 3 % s.2.2.2] : List Int)) (i := x15.1) (by simp; omega)
      rw [e]
      have ht2 : 0 ≤ t ∧ t < s.2.2.2 := by
        have a1 := Int.emod_nonneg x (b := s.2.2.2) (by omega)
        have a2 := Int.emod_lt_of_pos x (b := s.2.2.2) (by omega)
        have a3 := Int.emod_nonneg (x / 3) (b := s.2.2.2) (by omega)
        have a4 := Int.emod_lt_of_pos (x / 3) (b := s.2.2.2) (by omega)
        simp only [List.mem_cons, List.not_mem_nil, or_false] at ht
        rcases ht with rfl | rfl | rfl | rfl <;> omega
      refine tot_let (tot_bind (draw_ok hb (by omega) (by omega)) fun y hy => ?_)
      obtain ⟨_, hb⟩ := hy
      refine tot_bind (P := fun q : Int × (List Int × Int) => (0 ≤ q.2.2 ∧ q.2.2 < s.2.2.1.length) ∧ Bg (N + 12 + 4 * k + 1 + 1 + 1 + 1) fold q.1 q.2.1) (tot_ite (fun c => ?_) fun c => tot_some ⟨by dsimp only; omega, hb.mono (by omega)⟩) fun q hq => ?_
      · refine tot_bind (draw_ok hb (by omega) (by omega)) fun w hw => ?_
        obtain ⟨⟨w0, w1⟩, hb⟩ := hw
        exact tot_some ⟨⟨w0, w1⟩, hb⟩
      · obtain ⟨⟨q0, q1⟩, hb⟩ := hq
        obtain ⟨t, htm, e⟩ := gx_ok (xs := s.2.2.1) (i := q.2.2) (by omega)
        rw [e]
        refine tot_let ?_
        rw [psh_ok (by omega)]
        refine tot_some ⟨hb.mono (by omega), by simp [hk], fun p hp => ?_⟩
        rcases List.mem_append.mp hp with z1 | z1
        · exact hkb p z1
        · rw [List.mem_singleton.mp z1]
          exact m4 t htm
    · obtain ⟨hb, hk, hkb⟩ := hz
      exact tot_some ⟨⟨by dsimp only; omega, hkb⟩, hb.mono (by omega)⟩
theorem lot_ok {N fold turn : Int} {great : List Int} (h : Bg N fold turn great) (hN : N < 90000) : Tot (m_law_lot great fold turn) fun r => (r.1.length ≤ 6 ∧ ∀ tr ∈ r.1, tr.length ≤ 200 ∧ ∀ p ∈ tr, 0 ≤ p ∧ p < 1000000000000) ∧ Bg (N + 7000) fold r.2.1 r.2.2 := by
  unfold m_law_lot
  refine tot_bind (draw_ok h (by omega) (by omega)) fun x1 h1 => ?_
  obtain ⟨⟨r0, r1⟩, hb⟩ := h1
  rw [rngG_ok (by omega), Option.bind_some]
  refine tot_bind (tot_lcB (I := fun j (s : Int × List Int) => Bg (N + 1 + 1001 * j) fold s.1 s.2) (R := fun _ (y : List Int) => y.length ≤ 200 ∧ ∀ p ∈ y, 0 ≤ p ∧ p < 1000000000000) (hb.mono (by omega)) (by rw [rng_len]; omega) fun j s x hx hj hI => ?_) fun x9 h9 => ?_
  · rw [rng_len] at hj
    unfold m_law_lot_c0
    refine tot_bind (draw_ok hI (by omega) (by omega)) fun x6 h6 => ?_
    obtain ⟨⟨q0, q1⟩, hb⟩ := h6
    obtain ⟨t, ht, e⟩ := gx_ok (xs := ([5, 9, 14, 14, 30, 30, 60, 200] : List Int)) (i := x6.1) (by simp; omega)
    rw [e]
    refine tot_let (tot_bind (line_ok hb (by simp at ht; omega) (by omega)) fun u hu => ?_)
    exact tot_some ⟨⟨_, rfl, hu.1⟩, hu.2.mono (by omega)⟩
  · obtain ⟨l9, s9, hb⟩ := h9
    rw [rng_len] at l9 hb
    exact tot_some ⟨⟨by dsimp only; omega, fun tr htr => by obtain ⟨_, _, h⟩ := s9 tr htr; exact h⟩, hb.mono (by omega)⟩
theorem many_ok {N fold turn : Int} {great : List Int} (h : Bg N fold turn great) (hN : N < 100000) : Tot (m_law_many great fold turn) fun r => (1 ≤ r.1 ∧ r.1 ≤ 64) ∧ Bg (N + 4) fold r.2.1 r.2.2 := by
  unfold m_law_many
  refine tot_bind (draw_ok h (by omega) (by omega)) fun x1 h1 => ?_
  obtain ⟨b1, hb⟩ := h1
  refine tot_bind (draw_ok hb (by omega) (by omega)) fun x2 h2 => ?_
  obtain ⟨b2, hb⟩ := h2
  refine tot_bind (draw_ok hb (by omega) (by omega)) fun x3 h3 => ?_
  obtain ⟨b3, hb⟩ := h3
  refine tot_bind (draw_ok hb (by omega) (by omega)) fun x4 h4 => ?_
  obtain ⟨b4, hb⟩ := h4
  obtain ⟨t, ht, e⟩ := gx_ok (xs := ([1, 2, (1 + x1.1), (1 + x2.1), (1 + x3.1)] : List Int)) (i := x4.1) (by simp; omega)
  rw [e]
  refine tot_some ⟨?_, hb.mono (by omega)⟩
  simp at ht
  dsimp only
  omega
theorem size_ok {N fold turn : Int} {great : List Int} (h : Bg N fold turn great) (hN : N < 100000) : Tot (m_law_size great fold turn) fun r => (1 ≤ r.1 ∧ r.1 ≤ 300) ∧ Bg (N + 2) fold r.2.1 r.2.2 := by
  unfold m_law_size
  refine tot_bind (draw_ok h (by omega) (by omega)) fun x1 h1 => ?_
  obtain ⟨b1, hb⟩ := h1
  refine tot_bind (draw_ok hb (by omega) (by omega)) fun x2 h2 => ?_
  obtain ⟨b2, hb⟩ := h2
  obtain ⟨t, ht, e⟩ := gx_ok (xs := ([1, 2, (1 + x1.1), 300] : List Int)) (i := x2.1) (by simp; omega)
  rw [e]
  refine tot_some ⟨?_, hb.mono (by omega)⟩
  simp at ht
  dsimp only
  omega
/-! ### what is told -/
def KL (lot : List (List Int)) (t : Nat) : List P2 := rounds lot t (Kof (mxl lot) t)
theorem by_rounds_ok {lot : List (List Int)} {t : Nat} (ht : 1 ≤ t ∧ t ≤ 100000) (hl : lot.length ≤ 100) (hs : ∀ tr ∈ lot, tr.length ≤ 200) : m_by_rounds lot t = some (KL lot t) := rounds_ok ht hl (B := 200) (by omega) hs
theorem KL_len {lot : List (List Int)} {t : Nat} (ht : 1 ≤ t) : ((KL lot t).length : Int) = (lot.map fun tr => (tr.length : Int)).sum := rounds_len fun tr htr => Nat.le_trans (mxl_le htr) (Kof_ge ht)
theorem KL_job {lot : List (List Int)} {t : Nat} (ht : 1 ≤ t) {j : Nat} (hj : j < lot.length) : ((KL lot t).filter fun q => decide (q.1 = (j : Int))).map (·.2) = lot.getD j [] := by
  refine rounds_job j ?_
  rw [List.getD_eq_getElem?_getD, List.getElem?_eq_getElem hj]
  exact Nat.le_trans (mxl_le (List.getElem_mem hj)) (Kof_ge ht)
theorem sum_short : ∀ {l : List (List Int)}, (∀ tr ∈ l, tr.length ≤ 200) → (l.map fun tr => (tr.length : Int)).sum ≤ 200 * l.length
  | [], _ => by simp
  | tr :: l, h => by
    have := sum_short (l := l) fun t ht => h t (List.mem_cons_of_mem _ ht)
    have := h tr List.mem_cons_self
    rw [List.map_cons, List.sum_cons, List.length_cons]
    push_cast
    omega
theorem loose_ok {lot : List (List Int)} {t r : Nat} (hr : 1 ≤ r) (ht : 1 ≤ t ∧ t ≤ 100000) (hl : lot.length ≤ 6) (hs : ∀ tr ∈ lot, tr.length ≤ 200) : m_loose lot (r : Int) (t : Int) = some (runG r [] (KL lot t)) := by
  have hlen := KL_len (lot := lot) ht.1
  have := sum_short hs
  obtain ⟨H', e⟩ := looseB_run hr (KL lot t) [] [] (by simp only [List.length_nil]; omega) (by simp only [List.length_nil]; omega)
  unfold m_loose m_need_room
  rw [decide_eq_false (show ¬ (r : Int) < 1 by omega), if_neg (by decide), Option.bind_some, decide_eq_false (show ¬ (t : Int) < 1 by omega), if_neg (by decide)]
  show (m_by_rounds lot t).bind _ = _
  rw [by_rounds_ok ht (by omega) hs, Option.bind_some]
  show (forM (looseB (r : Int)) (KL lot t) ([], [])).bind _ = _
  rw [e]
  rfl
open PySem (PyData)
/-! ### counted here -/
theorem due_ok {lot : List (List Int)} {t r : Nat} (hr : 1 ≤ r) (ht : 1 ≤ t) (hl : lot.length ≤ 6) (hs : ∀ tr ∈ lot, tr.length ≤ 200) : m_law_due lot (r : Int) (t : Int) = some (runG r [] (KL lot t)) := by
  have hlen := KL_len (lot := lot) ht
  have := sum_short hs
  have e := lrO_ok ht (by omega) hs
  obtain ⟨m', e2⟩ := due_run hr (KL lot t) [] [] [] 0 List.nodup_nil (Nat.zero_le _) List.nodup_nil (fun x => Iff.rfl) List.Pairwise.nil (fun x h => nomatch h) (by simp only [List.length_nil]; omega) (by simp only [List.length_nil]; omega)
  unfold m_law_due
  show (lrO lot (t : Int)).bind _ = _
  rw [e, Option.bind_some]
  show (forM (dueB (r : Int)) (enu 0 (KL lot t)) ([], [])).bind _ = _
  rw [show ((0 : Int)) = ((0 : Nat) : Int) from rfl, e2]
  rfl
theorem KL_D {lot : List (List Int)} {t : Nat} (ht : 1 ≤ t) {D : Int → Prop} (hs : ∀ tr ∈ lot, ∀ p ∈ tr, D p) : ∀ q ∈ KL lot t, (0 ≤ q.1 ∧ q.1 < lot.length) ∧ D q.2 := fun q hq => by
  have h1 := rounds_fst hq
  refine ⟨h1, ?_⟩
  have hj : q.1.toNat < lot.length := by omega
  have e := KL_job (lot := lot) ht hj
  have hm : q.2 ∈ ((KL lot t).filter fun u => decide (u.1 = ((q.1.toNat : Nat) : Int))).map (·.2) := List.mem_map.mpr ⟨q, List.mem_filter.mpr ⟨hq, decide_eq_true (show q.1 = ((q.1.toNat : Nat) : Int) by omega)⟩, rfl⟩
  rw [e, List.getD_eq_getElem?_getD, List.getElem?_eq_getElem hj] at hm
  exact hs _ (List.getElem_mem hj) _ hm
theorem okd_w {x : PySem.Str} (h1 : x.length ≤ 8) (h2 : (x.cps.toList.all fun c => decide (c < 16 ^ 8)) = true) : OkD 8 0 (.str x) := ⟨rfl, rfl, by simpa only [PyData.leavesShort] using h2, Nat.le_refl _, h1⟩
theorem runG_word {r : Nat} : ∀ (l H : List P2), ∀ u ∈ runG r H l, OkD 8 0 (.str u.a)
  | [], _, _, h => nomatch h
  | p :: l, H, u, h => by
    rcases List.mem_cons.mp (show u ∈ outG r H p :: runG r (nxtG r H p) l from h) with rfl | h
    · unfold outG
      split
      · show OkD 8 0 (.str ("hit" : PySem.Str))
        exact okd_w (by decide) (by decide)
      · show OkD 8 0 (.str ("fault" : PySem.Str))
        exact okd_w (by decide) (by decide)
    · exact runG_word l _ u h
/-! ### texts -/
def Gd (q : P2) : Prop := (0 ≤ q.1 ∧ q.1 < 1000000000000) ∧ (0 ≤ q.2 ∧ q.2 < 1000000000000)
theorem evs_shown {lot : List (List Int)} {t r : Nat} (ht : 1 ≤ t) (hl : lot.length ≤ 6) (hs : ∀ tr ∈ lot, tr.length ≤ 200 ∧ ∀ p ∈ tr, 0 ≤ p ∧ p < 1000000000000) : ∃ w, reprG (PySem.W.Datum.toD (runG r [] (KL lot t) : List T4g)) = some w := by
  have hlen := KL_len (lot := lot) ht
  have := sum_short fun tr h => (hs tr h).1
  have hD := runG_D (D := Gd) (r := r) (KL lot t) [] (fun x h => nomatch h) fun q hq => by
    have := KL_D (lot := lot) ht (D := fun p => 0 ≤ p ∧ p < 1000000000000) (fun tr h => (hs tr h).2) q hq
    exact ⟨⟨this.1.1, by omega⟩, this.2⟩
  refine ⟨_, reprG_ok (n := 100000) (dp := 3) (okd_list' (n := 36) (dp := 2) (xs := (runG r [] (KL lot t)).map PySem.W.Datum.toD) (fun x hx => ?_) (by rw [List.length_map, runG_len]; omega) (by omega)) rfl (by omega) (by omega)⟩
  obtain ⟨u, hu, rfl⟩ := List.mem_map.mp hx
  obtain ⟨⟨hb, hc⟩, hd⟩ := hD u hu
  refine okd_tuple' (N := 36) (D := 2) (n := 8) (dp := 1) (xs := [.str u.a, .int u.b, .int u.c, PySem.W.Datum.toD u.d]) (fun y hy => ?_) (by simp) (by omega)
  simp only [List.mem_cons, List.not_mem_nil, or_false] at hy
  rcases hy with rfl | rfl | rfl | rfl
  · exact (runG_word _ _ u hu).mono (by omega) (by omega)
  · exact (okd_int (by omega) (by omega)).mono (by omega) (by omega)
  · exact (okd_int (by omega) (by omega)).mono (by omega) (by omega)
  · cases e : u.d with
    | none => exact okd_none.mono (by omega) (by omega)
    | some g =>
      obtain ⟨g1, g2⟩ := hd g e
      refine okd_tuple' (N := 8) (D := 1) (n := 0) (dp := 0) (xs := [.int g.1, .int g.2]) (fun y hy => ?_) (by simp) (by omega)
      simp only [List.mem_cons, List.not_mem_nil, or_false] at hy
      rcases hy with rfl | rfl
      · exact okd_int (by omega) (by omega)
      · exact okd_int (by omega) (by omega)
abbrev Sd := PySem.W.T3 (List (List Int)) Int Int
structure SdOk (s : Sd) : Prop where
  l : s.a.length ≤ 6
  h : ∀ tr ∈ s.a, tr.length ≤ 200 ∧ ∀ p ∈ tr, 0 ≤ p ∧ p < 1000000000000
  r : 1 ≤ s.b ∧ s.b ≤ 64
  t : 1 ≤ s.c ∧ s.c ≤ 300
theorem lot_okd {lot : List (List Int)} (hl : lot.length ≤ 6) (hs : ∀ tr ∈ lot, tr.length ≤ 200 ∧ ∀ p ∈ tr, 0 ≤ p ∧ p < 1000000000000) : OkD 5000 2 (.list (lot.map fun tr => PyData.list (tr.map PyData.int))) := by
  refine okd_list' (n := 200) (dp := 1) (fun x hx => ?_) (by rw [List.length_map]; omega) (by omega)
  obtain ⟨tr, htr, rfl⟩ := List.mem_map.mp hx
  obtain ⟨h1, h2⟩ := hs tr htr
  refine okd_list' (n := 0) (dp := 0) (fun y hy => ?_) (by rw [List.length_map]; omega) (by omega)
  obtain ⟨p, hp, rfl⟩ := List.mem_map.mp hy
  have := h2 p hp
  exact okd_int (by omega) (by omega)
theorem sides_shown {ss : List Sd} (hl : ss.length ≤ 2) (h : ∀ s ∈ ss, SdOk s) : ∃ w, reprG (PySem.W.Datum.toD (ss : List Sd)) = some w := by
  refine ⟨_, reprG_ok (n := 100000) (dp := 4) (okd_list' (n := 20000) (dp := 3) (xs := ss.map PySem.W.Datum.toD) (fun x hx => ?_) (by rw [List.length_map]; omega) (by omega)) rfl (by omega) (by omega)⟩
  obtain ⟨s, hs, rfl⟩ := List.mem_map.mp hx
  have k := h s hs
  have kr := k.r
  have kt := k.t
  refine okd_tuple' (N := 20000) (D := 3) (n := 5000) (dp := 2) (xs := [.list (s.a.map fun tr => PyData.list (tr.map PyData.int)), .int s.b, .int s.c]) (fun y hy => ?_) (by simp) (by omega)
  simp only [List.mem_cons, List.not_mem_nil, or_false] at hy
  rcases hy with rfl | rfl | rfl
  · exact lot_okd k.l k.h
  · exact (okd_int (by omega) (by omega)).mono (by omega) (by omega)
  · exact (okd_int (by omega) (by omega)).mono (by omega) (by omega)
theorem two_ok {α : Type} {xs : List α} (h : xs.length = 2) : ∃ a b, xs = [a, b] := match xs, h with
  | [a, b], _ => ⟨a, b, rfl⟩
theorem law_true (ns : List Int) (hl : ns.length ≤ 63) : m_law ns = some true := by
  have key : Tot (m_law ns) fun r => r = true := by
    unfold m_law
    refine tot_bind (bag_ok hl) fun b hb => ?_
    rw [rngG_ok (by omega)]
    refine tot_let ?_
    refine tot_bind (tot_lcB (I := fun j (s : Int × List Int) => Bg (8000 * j) b.2.1 s.1 s.2) (R := fun _ (y : Sd) => SdOk y) (hb.mono (by omega)) (by rw [rng_len]; omega) fun j s x hx hj hI => ?_) fun x11 h11 => ?_
    · rw [rng_len] at hj
      unfold m_law_c0
      refine tot_bind (lot_ok hI (by omega)) fun x8 h8 => ?_
      obtain ⟨⟨l8, s8⟩, hb⟩ := h8
      refine tot_bind (many_ok hb (by omega)) fun x9 h9 => ?_
      obtain ⟨b9, hb⟩ := h9
      refine tot_bind (size_ok hb (by omega)) fun x10 h10 => ?_
      obtain ⟨b10, hb⟩ := h10
      exact tot_some ⟨⟨_, rfl, ⟨l8, s8, b9, b10⟩⟩, hb.mono (by omega)⟩
    · obtain ⟨l11, s11, _⟩ := h11
      rw [rng_len] at l11
      have s11 : ∀ y ∈ x11.1, SdOk y := fun y hy => by obtain ⟨_, _, h⟩ := s11 y hy; exact h
      have l2 : x11.1.length = 2 := by omega
      obtain ⟨a, b, e⟩ := two_ok l2
      have oa : SdOk a := s11 a (by rw [e]; exact List.mem_cons_self)
      have ob : SdOk b := s11 b (by rw [e]; exact List.mem_cons_of_mem _ List.mem_cons_self)
      rw [e]
      show Tot ((some (a, b)).bind _) _
      rw [Option.bind_some]
      obtain ⟨kept, ek⟩ := sides_shown (ss := [a, b]) (by simp) (fun s hs => by
        rcases List.mem_cons.mp hs with rfl | hs
        · exact oa
        · rw [List.mem_singleton.mp hs]; exact ob)
      have ek : reprG (PySem.W.Datum.toD ([PySem.W.T3.mk a.a a.b a.c, PySem.W.T3.mk b.a b.b b.c] : List Sd)) = some kept := ek
      dsimp only
      rw [ek, Option.bind_some]
      -- one side asked
      have one : ∀ s : Sd, SdOk s → ∃ (ts : List T4g) (w : PySem.Str), m_law_due s.a s.b s.c = some ts ∧ m_loose s.a s.b s.c = some ts ∧ reprG (PySem.W.Datum.toD (ts : List T4g)) = some w ∧ ts.length ≤ 1200 ∧ (J.ifM (decide (s.c = 1)) ((m_loose s.a s.b 1).bind fun x21 => some x21) ((m_loose s.a s.b s.c).bind fun x22 => some x22)) = some ts := fun s os => by
        obtain ⟨l, hs, hr, ht⟩ := os
        obtain ⟨r, er⟩ : ∃ r : Nat, s.b = r := ⟨s.b.toNat, by omega⟩
        obtain ⟨t, et⟩ : ∃ t : Nat, s.c = t := ⟨s.c.toNat, by omega⟩
        have hs2 : ∀ tr ∈ s.a, tr.length ≤ 200 := fun tr h => (hs tr h).1
        have r1 : 1 ≤ r := by omega
        have t1 : 1 ≤ t ∧ t ≤ 100000 := by omega
        have hlen := KL_len (lot := s.a) t1.1
        have hsum := sum_short hs2
        obtain ⟨w, ew⟩ := evs_shown (lot := s.a) (r := r) t1.1 l hs
        have fe := loose_ok (lot := s.a) r1 t1 l hs2
        refine ⟨runG r [] (KL s.a t), w, ?_, ?_, ew, by rw [runG_len]; omega, ?_⟩
        · rw [er, et]
          exact due_ok r1 t1.1 l hs2
        · rw [er, et]
          exact fe
        · rw [er, et]
          unfold J.ifM
          by_cases c : t = 1
          · subst c
            rw [decide_eq_true (show ((1 : Nat) : Int) = 1 from rfl)]
            have := fe
            rw [show (((1 : Nat)) : Int) = 1 from rfl] at this
            rw [this]
            rfl
          · rw [decide_eq_false (show ¬ (t : Int) = 1 by omega), fe]
            rfl
      have o1 : ∀ w : PySem.Str, (J.orM (!true) ((some w).bind fun x25 => (some w).bind fun x26 => (J.orM (decide (x25 ≠ x26)) ((some kept).bind fun x27 => some (decide (x27 ≠ kept)))).bind fun x28 => some x28)) = some false := fun w => by
        unfold J.orM
        simp
      have step0 : m_law_b1 (a, b) kept () 0 = some (.nx ()) := by
        obtain ⟨ts, w, e1, e2, e3, e4, e5⟩ := one a oa
        unfold m_law_b1
        rw [if_pos (by decide)]
        dsimp only
        rw [e1, Option.bind_some, e5, Option.bind_some, e3, ek, o1, Option.bind_some, if_neg (by decide), psh_ok (by omega), Option.bind_some, e2, Option.bind_some, e3, Option.bind_some, Option.bind_some, decide_eq_false (fun h => h rfl), if_neg (by decide)]
      have step1 : m_law_b1 (a, b) kept () 1 = some (.nx ()) := by
        obtain ⟨ts, w, e1, e2, e3, e4, e5⟩ := one b ob
        unfold m_law_b1
        rw [if_neg (by decide), if_pos (by decide)]
        dsimp only
        rw [e1, Option.bind_some, e5, Option.bind_some, e3, ek, o1, Option.bind_some, if_neg (by decide), psh_ok (by omega), Option.bind_some, e2, Option.bind_some, e3, Option.bind_some, Option.bind_some, decide_eq_false (fun h => h rfl), if_neg (by decide)]
      have e3 : forL (m_law_b1 (a, b) kept) ([0, 1, 0] : List Int) () = some (.inl ()) := by
        show (m_law_b1 (a, b) kept () 0).bind _ = _
        rw [step0]
        show (m_law_b1 (a, b) kept () 1).bind _ = _
        rw [step1]
        show (m_law_b1 (a, b) kept () 0).bind _ = _
        rw [step0]
        rfl
      rw [e3, Option.bind_some, Sum.elim_inl, Option.bind_some]
      have ov : SdOk ⟨a.a.reverse.map List.reverse, a.b, a.c⟩ := ⟨by simp only [List.length_map, List.length_reverse]; exact oa.l, fun tr htr => by
        obtain ⟨u, hu, rfl⟩ := List.mem_map.mp htr
        obtain ⟨h1, h2⟩ := oa.h u (List.mem_reverse.mp hu)
        exact ⟨by rw [List.length_reverse]; exact h1, fun p hp => h2 p (List.mem_reverse.mp hp)⟩, oa.r, oa.t⟩
      obtain ⟨ts, w, e1, e2, e3, e4, e5⟩ := one _ ov
      dsimp only at e1 e2
      rw [e2, Option.bind_some, e3, Option.bind_some, e1, Option.bind_some, e3, Option.bind_some, decide_eq_true rfl]
      exact tot_some rfl
  obtain ⟨r, e, rfl⟩ := key
  exact e
end Gk60
namespace Gk60
open PySem PySem.Spec PyProof.Rows L2
/-! ### the head: facts by names, the run -/
def h__law_bag : He.DefD := ⟨("_law_bag", none), "_law_bag", "_law_bag", defArgs s__law_bag, defBody s__law_bag, defScope s__law_bag, [], []⟩
def h__law_draw : He.DefD := ⟨("_law_draw", none), "_law_draw", "_law_draw", defArgs s__law_draw, defBody s__law_draw, defScope s__law_draw, [], []⟩
def h__law_pages : He.DefD := ⟨("_law_pages", none), "_law_pages", "_law_pages", defArgs s__law_pages, defBody s__law_pages, defScope s__law_pages, [], []⟩
def h__law_line : He.DefD := ⟨("_law_line", none), "_law_line", "_law_line", defArgs s__law_line, defBody s__law_line, defScope s__law_line, [], []⟩
def h__law_lot : He.DefD := ⟨("_law_lot", none), "_law_lot", "_law_lot", defArgs s__law_lot, defBody s__law_lot, defScope s__law_lot, [], []⟩
def h__law_many : He.DefD := ⟨("_law_many", none), "_law_many", "_law_many", defArgs s__law_many, defBody s__law_many, defScope s__law_many, [], []⟩
def h__law_size : He.DefD := ⟨("_law_size", none), "_law_size", "_law_size", defArgs s__law_size, defBody s__law_size, defScope s__law_size, [], []⟩
def h__law_rounds : He.DefD := ⟨("_law_rounds", none), "_law_rounds", "_law_rounds", defArgs s__law_rounds, defBody s__law_rounds, defScope s__law_rounds, [], []⟩
def h__law_due : He.DefD := ⟨("_law_due", none), "_law_due", "_law_due", defArgs s__law_due, defBody s__law_due, defScope s__law_due, [], []⟩
def h_need_room : He.DefD := ⟨("need_room", none), "need_room", "need_room", defArgs s_need_room, defBody s_need_room, defScope s_need_room, [], []⟩
def h_Line_init : He.DefD := ⟨("Line", some "__init__"), "__init__", "Line.__init__", defArgs s_Line_init, defBody s_Line_init, defScope s_Line_init, [], []⟩
def h_Room_init : He.DefD := ⟨("Room", some "__init__"), "__init__", "Room.__init__", defArgs s_Room_init, defBody s_Room_init, defScope s_Room_init, [], []⟩
def h_by_rounds : He.DefD := ⟨("by_rounds", none), "by_rounds", "by_rounds", defArgs s_by_rounds, defBody s_by_rounds, defScope s_by_rounds, [], []⟩
def h_Line_ask : He.DefD := ⟨("Line", some "ask"), "ask", "Line.ask", defArgs s_Line_ask, defBody s_Line_ask, defScope s_Line_ask, [], []⟩
def h_Room_ask : He.DefD := ⟨("Room", some "ask"), "ask", "Room.ask", defArgs s_Room_ask, defBody s_Room_ask, defScope s_Room_ask, [], []⟩
def h_loose : He.DefD := ⟨("loose", none), "loose", "loose", defArgs s_loose, defBody s_loose, defScope s_loose, [], [("turn", He.Dv.int 1)]⟩
def h_law : He.DefD := ⟨("law", none), "law", "law", defArgs s_law, defBody s_law, defScope s_law, [], []⟩
def fn : List He.DefD := [h__law_bag, h__law_draw, h__law_pages, h__law_line, h__law_lot, h__law_many, h__law_size, h__law_rounds, h__law_due, h_need_room, h_Line_init, h_Room_init, h_by_rounds, h_Line_ask, h_Room_ask, h_loose, h_law]
def fa : List He.Fa := [.glo "_law_bag", .glo "_law_draw", .glo "_law_pages", .glo "_law_line", .glo "_law_lot", .glo "_law_many", .glo "_law_size", .glo "_law_rounds", .glo "_law_due", .glo "need_room", .glo "by_rounds", .glo "loose", .glo "law", .glo "Line", .cls "Line", .glo "Room", .cls "Room", .noat "Line" "line_room", .noat "Line" "line_pages", .noat "Line" "is_moved", .noat "Room" "keeper", .mkr "Line", .mkr "Room", .meth "Line" "ask", .meth "Room" "ask", .str "RULE" "last", .free "enumerate", .free "isinstance", .free "len", .free "list", .free "max", .free "min", .free "range", .free "repr"]
abbrev R : PySem.W.OpenRow := PySem.W.OpenLaw.row PySem.Challenge.rw_pagerooms_k60_loose_told
abbrev hk : PySem.W.Hook := He.hookD 6 fa fn
def ob (s : PySem.W.SharedT) : He.AlD := He.obsDG 6 fa fn (HandSHeadRun.getT s)
theorem ob_eq (s : PySem.W.SharedT) : ob s = hk.obs s.abs := He.obsDG_eq (HandSHeadRun.getT_eq s)
theorem run (w : World) : HandSHeadRun.RunEq R (PySem.W.view R.prog [23]) hk ob 6000 ["PageError", "NoRoom", "NoTurn", "need_room", "Line", "Ring", "Room", "RULE", "by_rounds", "loose", "_law_bag", "_law_draw", "_law_pages", "_law_line", "_law_lot", "_law_many", "_law_size", "_law_rounds", "_law_due"] w := by
  intro os
  kernel_rfl
theorem facts {P : Program} {w : World} {K : PySem.W.Frag} {h : Heap} {mg : Str → Option Value} {f : Addr} (X : K.In h) (G : h.Ns mainGlobals mg) (hfa : mg ("law" : Str) = some (.ref f)) (c : He.SaysD fa fn K) :
    ∃ fd : FuncData, (∀ (s : Shared) (v : Value), BindsTo s fd ⟨[v], []⟩ [("script", v)]) ∧ ∀ base : Heap, K.In base → base.Ns mainGlobals mg → J.FnG P w K mg base CX0 6 f fd ["script"] (F_law K).sp := by
  obtain ⟨fd0, FD0⟩ := c.def_ 0 (d := h__law_bag) rfl
  obtain ⟨fd1, FD1⟩ := c.def_ 1 (d := h__law_draw) rfl
  obtain ⟨fd2, FD2⟩ := c.def_ 2 (d := h__law_pages) rfl
  obtain ⟨fd3, FD3⟩ := c.def_ 3 (d := h__law_line) rfl
  obtain ⟨fd4, FD4⟩ := c.def_ 4 (d := h__law_lot) rfl
  obtain ⟨fd5, FD5⟩ := c.def_ 5 (d := h__law_many) rfl
  obtain ⟨fd6, FD6⟩ := c.def_ 6 (d := h__law_size) rfl
  obtain ⟨fd7, FD7⟩ := c.def_ 7 (d := h__law_rounds) rfl
  obtain ⟨fd8, FD8⟩ := c.def_ 8 (d := h__law_due) rfl
  obtain ⟨fd9, FD9⟩ := c.def_ 9 (d := h_need_room) rfl
  obtain ⟨fd10, FD10⟩ := c.def_ 10 (d := h_Line_init) rfl
  obtain ⟨fd11, FD11⟩ := c.def_ 11 (d := h_Room_init) rfl
  obtain ⟨fd12, FD12⟩ := c.def_ 12 (d := h_by_rounds) rfl
  obtain ⟨fd13, FD13⟩ := c.def_ 13 (d := h_Line_ask) rfl
  obtain ⟨fd14, FD14⟩ := c.def_ 14 (d := h_Room_ask) rfl
  obtain ⟨fd15, FD15⟩ := c.def_ 15 (d := h_loose) rfl
  obtain ⟨fd16, FD16⟩ := c.def_ 16 (d := h_law) rfl
  have e := hfa.symm.trans (He.glo_ok X G (c.fact 12 (f := .glo "law") rfl))
  cases e
  have b := FunD.bindsA (ps := ["script"]) FD16 fun _ _ _ _ _ _ us hl => match us, hl with | [_], _ => rfl
  exact ⟨fd16, fun s v => b s [v] rfl, fun base _ _ => ok_law (P := P) (w := w) (base := base) (⟨He.ga K "Line", He.glo_ok X G (c.fact 13 (f := .glo "Line") rfl), He.cls_ok (c.fact 14 (f := .cls "Line") rfl),
      He.ga K "Room", He.glo_ok X G (c.fact 15 (f := .glo "Room") rfl), He.cls_ok (c.fact 16 (f := .cls "Room") rfl),
      He.noat_ok (c.fact 17 (f := .noat "Line" "line_room") rfl),
      He.noat_ok (c.fact 18 (f := .noat "Line" "line_pages") rfl),
      He.noat_ok (c.fact 19 (f := .noat "Line" "is_moved") rfl),
      He.noat_ok (c.fact 20 (f := .noat "Room" "keeper") rfl),
      He.str_ok X G (c.fact 25 (f := .str "RULE" "last") rfl),
      _, fd0, FD0, He.glo_ok X G (c.fact 0 (f := .glo "_law_bag") rfl), FD0.bindsN (ps := ["script"]) (fun _ _ _ _ _ _ us hl => match us, hl with | [_], _ => rfl),
      _, fd1, FD1, He.glo_ok X G (c.fact 1 (f := .glo "_law_draw") rfl), FD1.bindsN (ps := ["bag", "many"]) (fun _ _ _ _ _ _ us hl => match us, hl with | [_, _], _ => rfl),
      _, fd2, FD2, He.glo_ok X G (c.fact 2 (f := .glo "_law_pages") rfl), FD2.bindsN (ps := ["bag"]) (fun _ _ _ _ _ _ us hl => match us, hl with | [_], _ => rfl),
      _, fd3, FD3, He.glo_ok X G (c.fact 3 (f := .glo "_law_line") rfl), FD3.bindsN (ps := ["bag", "most"]) (fun _ _ _ _ _ _ us hl => match us, hl with | [_, _], _ => rfl),
      _, fd4, FD4, He.glo_ok X G (c.fact 4 (f := .glo "_law_lot") rfl), FD4.bindsN (ps := ["bag"]) (fun _ _ _ _ _ _ us hl => match us, hl with | [_], _ => rfl),
      _, fd5, FD5, He.glo_ok X G (c.fact 5 (f := .glo "_law_many") rfl), FD5.bindsN (ps := ["bag"]) (fun _ _ _ _ _ _ us hl => match us, hl with | [_], _ => rfl),
      _, fd6, FD6, He.glo_ok X G (c.fact 6 (f := .glo "_law_size") rfl), FD6.bindsN (ps := ["bag"]) (fun _ _ _ _ _ _ us hl => match us, hl with | [_], _ => rfl),
      _, fd7, FD7, He.glo_ok X G (c.fact 7 (f := .glo "_law_rounds") rfl), FD7.bindsN (ps := ["lot", "size"]) (fun _ _ _ _ _ _ us hl => match us, hl with | [_, _], _ => rfl),
      _, fd8, FD8, He.glo_ok X G (c.fact 8 (f := .glo "_law_due") rfl), FD8.bindsN (ps := ["lot", "many", "size"]) (fun _ _ _ _ _ _ us hl => match us, hl with | [_, _, _], _ => rfl),
      _, fd9, FD9, He.glo_ok X G (c.fact 9 (f := .glo "need_room") rfl), FD9.bindsN (ps := ["room"]) (fun _ _ _ _ _ _ us hl => match us, hl with | [_], _ => rfl),
      _, fd10, FD10, FD10.bindsN (ps := ["self", "room", "is_moved"]) (fun _ _ _ _ _ _ us hl => match us, hl with | [_, _, _], _ => rfl), He.mkr_ok (c.fact 21 (f := .mkr "Line") rfl),
      _, fd11, FD11, FD11.bindsN (ps := ["self", "room", "rule"]) (fun _ _ _ _ _ _ us hl => match us, hl with | [_, _, _], _ => rfl), He.mkr_ok (c.fact 22 (f := .mkr "Room") rfl),
      _, fd12, FD12, He.glo_ok X G (c.fact 10 (f := .glo "by_rounds") rfl), FD12.bindsN (ps := ["traces", "turn"]) (fun _ _ _ _ _ _ us hl => match us, hl with | [_, _], _ => rfl),
      _, fd13, FD13, FD13.bindsN (ps := ["self", "page"]) (fun _ _ _ _ _ _ us hl => match us, hl with | [_, _], _ => rfl), He.meth_ok (c.fact 23 (f := .meth "Line" "ask") rfl),
      _, fd14, FD14, FD14.bindsN (ps := ["self", "page"]) (fun _ _ _ _ _ _ us hl => match us, hl with | [_, _], _ => rfl), He.meth_ok (c.fact 24 (f := .meth "Room" "ask") rfl),
      _, fd15, FD15, He.glo_ok X G (c.fact 11 (f := .glo "loose") rfl),
      _, fd16, FD16, He.glo_ok X G (c.fact 12 (f := .glo "law") rfl), FD16.bindsN (ps := ["script"]) (fun _ _ _ _ _ _ us hl => match us, hl with | [_], _ => rfl),
      He.free_ok X G (c.fact 26 (f := .free "enumerate") rfl),
      He.free_ok X G (c.fact 27 (f := .free "isinstance") rfl),
      He.free_ok X G (c.fact 28 (f := .free "len") rfl),
      He.free_ok X G (c.fact 29 (f := .free "list") rfl),
      He.free_ok X G (c.fact 30 (f := .free "max") rfl),
      He.free_ok X G (c.fact 31 (f := .free "min") rfl),
      He.free_ok X G (c.fact 32 (f := .free "range") rfl),
      He.free_ok X G (c.fact 33 (f := .free "repr") rfl)⟩ : Wd K mg)⟩
end Gk60
open PySem PySem.W PySem.Calls PyProof.Rows
theorem PySem.Challenge.cw_pagerooms_k60_loose_told_holds : PySem.Challenge.rw_pagerooms_k60_loose_told.Holds := by
  w_on; o_law
  refine HandSHeadRun.head_any (r := OpenLaw.row PySem.Challenge.rw_pagerooms_k60_loose_told) (q := view (OpenLaw.row PySem.Challenge.rw_pagerooms_k60_loose_told).prog [23]) (H := Gk60.hk) (ob := Gk60.ob) (M := 6000) (loose := ["PageError", "NoRoom", "NoTurn", "need_room", "Line", "Ring", "Room", "RULE", "by_rounds", "loose", "_law_bag", "_law_draw", "_law_pages", "_law_line", "_law_lot", "_law_many", "_law_size", "_law_rounds", "_law_due"]) (d := HandSHeadRun.topDef (OpenLaw.row PySem.Challenge.rw_pagerooms_k60_loose_told).prog 23) (kwd := []) Gk60.ob_eq
    (by kernel_rfl) (fun s => by kernel_rfl) Gk60.run (by kernel_rfl) (by kernel_rfl) (by kernel_rfl) (by rfl) (by first | assumption | decide +kernel) (by decide +kernel) ⟨rfl, rfl, rfl, rfl, rfl, by decide +kernel⟩ ?hw ?hc
  case hw => w_witness2
  case hc =>
    refine J.walk_ofG (l := PySem.Challenge.rw_pagerooms_k60_loose_told) (n := 63) (k := 6) (x := "script") (CX := L2.CX0) rfl (by decide) (by kernel_rfl) ⟨rfl, by decide, by decide⟩ ?F (fun _ _ _ _ z => z)
    intro w mg fa h Y G hmg0
    obtain ⟨K, KX, c⟩ := Y
    have hmg : mg ("law" : PySem.Str) = some (.ref fa) := by
      have e : (HandSHeadRun.topDef (OpenLaw.row PySem.Challenge.rw_pagerooms_k60_loose_told).prog 23).name = ("law" : PySem.Str) := by kernel_rfl
      rw [← e]
      exact hmg0
    obtain ⟨fd, hb, hF⟩ := Gk60.facts (P := (PySem.Challenge.rw_pagerooms_k60_loose_told).prog) (w := w) KX G hmg c
    exact ⟨K, fd, (Gk60.F_law K).sp, KX, hb, fun H a ns hl _ hS => ⟨⟨a, ns, true⟩, ⟨H, H⟩, Gk60.law_true ns hl, hS, J.sta0, fun v H' h => J.out_true h⟩, hF⟩
