import PyProof.Rows.All
import PySem.Challenge.RW_pagerooms_k53_rooms_dealt
import Wide.All
import OpenK.AllK
import Wide.FinOn
import HandS.ForMost
import KE.Datum
import HandS.Wide
import HandS.Walk
import HandS.SetFor
import KE.DatumIndex
import KE.DatumMore
import KE.DatumOrd
import KE.SortData
import HandS.Defaults
import HandS.Style
import HandS.Zip
import HandS.SortOrd
import HandS.SortInts
import HandS.IsInst
import HandS.WordsDict
import HandS.SortRule
import HandS.SortKw
import HandS.Conv
import HandS.Iter
import HandS.MakeKwOnly
import HandS.HeadHook4
import KE.GoesEnum
import HandS.Exc
import HandS.ExcOwn
import HandS.ExcInit
import HandS.ExcField
import HandS.ExcCtx
import KE.KExcIs
import KE.KIsAll
import HandS.Lambda
import KE.KMinKey
import HandS.HeadWalk
import KE.DatumMoreOrd
import KE.GoesEnumKw
import HandS.DictComp
import HandS.NoneIn
import HandS.TupLen
import HandS.DictTup
import PyProof.DictMoreH
import PyProof.ReprRoads
import HandS.MakeKw
import HandS.Head0
import HandS.Head1
import HandS.Head2
import HandS.HeadEnd
import HandS.HeadHook1
import HandS.HeadHook2
set_option Elab.async false
set_option linter.all false
set_option maxRecDepth 100000
set_option maxHeartbeats 0
namespace J
open PySem L2
open PySem.W (Datum)
/-! typed slots: what a value of the heap stands for -/
mutual
inductive Slot : Type 1 where
  | any
  | v (x : V)
  | val {α : Type} [DecidableEq α] [Datum α] (x : α)
  | own (c : Cel)
  | ownA (q : Addr) (c : Cel)
  | say (φ : (Addr → Option HO) → V → Prop)
  | otup (ss : List Slot)
inductive Cel : Type 1 where
  | lst (ss : List Slot)
  | ins (C : Addr) (fs : List (Str × Slot))
  | dk (ks : List Key) (ss : List Slot)
  | fdk (o : Obj) (gs : List (Key × V)) (ss : List Slot)
  | gone
  | say (ψ : (Addr → Option HO) → HO → Prop)
end
abbrev Ex (H H' : Hp) : Prop := ∀ a o, H a = some o → H' a = some o
theorem Ex.refl (H : Hp) : Ex H H := fun _ _ h => h
/-- what is said of a value for good -/
def Mono (φ : Hp → V → Prop) : Prop := ∀ G G' u, Ex G G' → φ G u → φ G' u
def MonoC (ψ : Hp → HO → Prop) : Prop := ∀ G G' o, Ex G G' → ψ G o → ψ G' o
theorem Ex.trans {H H1 H2 : Hp} (a : Ex H H1) (b : Ex H1 H2) : Ex H H2 := fun x o h => b x o (a x o h)
/-! data, by the heap alone -/
mutual
inductive Dq (H : Hp) : V → PyData → Prop where
  | non : Dq H .non .none
  | bl (b : Bool) : Dq H (.bl b) (.bool b)
  | int (i : Int) : Dq H (.int i) (.int i)
  | str (x : Str) : Dq H (.str x) (.str x)
  | lst {a : Addr} {xs : List V} {ds : List PyData} : H a = some (.lst xs) → DqAll H xs ds → Dq H (.ref a) (.list ds)
  | tup {a : Addr} {xs : List V} {ds : List PyData} : H a = some (.tup xs) → DqAll H xs ds → Dq H (.ref a) (.tuple ds)
inductive DqAll (H : Hp) : List V → List PyData → Prop where
  | nil : DqAll H [] []
  | cons {v : V} {vs : List V} {d : PyData} {ds : List PyData} : Dq H v d → DqAll H vs ds → DqAll H (v :: vs) (d :: ds)
end
mutual
theorem dq_mono {H H' : Hp} (e : Ex H H') : ∀ {d : PyData} {v : V}, Dq H v d → Dq H' v d
  | _, _, .non => .non
  | _, _, .bl b => .bl b
  | _, _, .int i => .int i
  | _, _, .str x => .str x
  | _, _, .lst h ha => .lst (e _ _ h) (dqAll_mono e ha)
  | _, _, .tup h ha => .tup (e _ _ h) (dqAll_mono e ha)
theorem dqAll_mono {H H' : Hp} (e : Ex H H') : ∀ {ds : List PyData} {vs : List V}, DqAll H vs ds → DqAll H' vs ds
  | _, _, .nil => .nil
  | _, _, .cons h1 h2 => .cons (dq_mono e h1) (dqAll_mono e h2)
end
mutual
theorem dq_dp {K : PySem.W.Frag} {H : Hp} : ∀ {d : PyData} {v : V}, Dq H v d → Dp K H v d
  | _, _, .non => .non
  | _, _, .bl b => .bl b
  | _, _, .int i => .int i
  | _, _, .str x => .str x
  | _, _, .lst h ha => .lst (.of h) (dqAll_dp ha)
  | _, _, .tup h ha => .tup (.of h) (dqAll_dp ha)
theorem dqAll_dp {K : PySem.W.Frag} {H : Hp} : ∀ {ds : List PyData} {vs : List V}, DqAll H vs ds → DpAll K H vs ds
  | _, _, .nil => .nil
  | _, _, .cons h1 h2 => .cons (dq_dp h1) (dqAll_dp h2)
end
/-- no tuple -/
def NT (o : HO) : Prop := ∀ xs, o ≠ .tup xs
/-! G: what is said for good; H: the heap; the addresses that are owned -/
mutual
inductive SlI (G H : Hp) : Slot → V → List Addr → Prop where
  | any {u} : SlI G H .any u []
  | v {u} : SlI G H (.v u) u []
  | val {α : Type} [DecidableEq α] [Datum α] {x : α} {u : V} : Dq G u (Datum.toD x) → SlI G H (.val x) u []
  | own {c : Cel} {p : Addr} {o : HO} {as : List Addr} : H p = some o → CeI G H c o as → SlI G H (.own c) (.ref p) (p :: as)
  | ownA {c : Cel} {q : Addr} {o : HO} {as : List Addr} : H q = some o → CeI G H c o as → SlI G H (.ownA q c) (.ref q) (q :: as)
  | say {φ : Hp → V → Prop} {u : V} : Mono φ → φ G u → SlI G H (.say φ) u []
  | otup {ss : List Slot} {vs : List V} {t : Addr} {as : List Addr} : G t = some (.tup vs) → SsI G H ss vs as → SlI G H (.otup ss) (.ref t) as
inductive CeI (G H : Hp) : Cel → HO → List Addr → Prop where
  | lst {ss : List Slot} {vs : List V} {as : List Addr} : SsI G H ss vs as → CeI G H (.lst ss) (.lst vs) as
  | ins {C dx : Addr} {fs : List (Str × Slot)} {gs : List (Str × V)} {as : List Addr} : fs.map (·.1) = gs.map (·.1) → SsI G H (fs.map (·.2)) (gs.map (·.2)) as → CeI G H (.ins C fs) (.ins C dx gs) as
  | dk {ks : List Key} {ss : List Slot} {gs : List (Key × V)} {as : List Addr} : ks = gs.map (·.1) → SsI G H ss (gs.map (·.2)) as → CeI G H (.dk ks ss) (.dK gs) as
  | fdk {ob : Obj} {ss : List Slot} {gs : List (Key × V)} {as : List Addr} : SsI G H ss (gs.map (·.2)) as → CeI G H (.fdk ob gs ss) (.frz ob (.dK gs)) as
  | say {ψ : Hp → HO → Prop} {o : HO} : MonoC ψ → ψ G o → NT o → CeI G H (.say ψ) o []
inductive SsI (G H : Hp) : List Slot → List V → List Addr → Prop where
  | nil : SsI G H [] [] []
  | cons {s : Slot} {u : V} {as : List Addr} {ss : List Slot} {vs : List V} {bs : List Addr} : SlI G H s u as → SsI G H ss vs bs → SsI G H (s :: ss) (u :: vs) (as ++ bs)
end
section
variable {G G' H H' : Hp}
mutual
theorem SlI.mono : ∀ {s : Slot} {u : V} {as : List Addr}, SlI G H s u as → Ex G G' → (∀ a ∈ as, H' a = H a) → SlI G' H' s u as
  | _, _, _, .any, _, _ => .any
  | _, _, _, .v, _, _ => .v
  | _, _, _, @SlI.val _ _ α i1 i2 x u h, e, _ => @SlI.val _ _ α i1 i2 x u (dq_mono e h)
  | _, _, _, .say m h, e, _ => .say m (m _ _ _ e h)
  | _, _, _, .otup ht h, e, f => .otup (e _ _ ht) (SsI.mono h e f)
  | _, _, _, .own hp hc, e, f => .own ((f _ List.mem_cons_self).trans hp) (CeI.mono hc e fun a ha => f a (List.mem_cons_of_mem _ ha))
  | _, _, _, .ownA hp hc, e, f => .ownA ((f _ List.mem_cons_self).trans hp) (CeI.mono hc e fun a ha => f a (List.mem_cons_of_mem _ ha))
theorem CeI.mono : ∀ {c : Cel} {o : HO} {as : List Addr}, CeI G H c o as → Ex G G' → (∀ a ∈ as, H' a = H a) → CeI G' H' c o as
  | _, _, _, .lst h, e, f => .lst (SsI.mono h e f)
  | _, _, _, .ins h1 h2, e, f => .ins h1 (SsI.mono h2 e f)
  | _, _, _, .dk h1 h2, e, f => .dk h1 (SsI.mono h2 e f)
  | _, _, _, .fdk h2, e, f => .fdk (SsI.mono h2 e f)
  | _, _, _, .say m h n, e, _ => .say m (m _ _ _ e h) n
theorem SsI.mono : ∀ {ss : List Slot} {vs : List V} {as : List Addr}, SsI G H ss vs as → Ex G G' → (∀ a ∈ as, H' a = H a) → SsI G' H' ss vs as
  | _, _, _, .nil, _, _ => .nil
  | _, _, _, .cons h1 h2, e, f => .cons (SlI.mono h1 e fun a ha => f a (List.mem_append_left _ ha)) (SsI.mono h2 e fun a ha => f a (List.mem_append_right _ ha))
end
theorem SsI.len : ∀ {ss : List Slot} {vs : List V} {as : List Addr}, SsI G H ss vs as → ss.length = vs.length
  | _, _, _, .nil => rfl
  | _, _, _, .cons _ h => congrArg Nat.succ (SsI.len h)
theorem SsI.app : ∀ {ss : List Slot} {vs : List V} {as : List Addr} {tt : List Slot} {us : List V} {bs : List Addr}, SsI G H ss vs as → SsI G H tt us bs → SsI G H (ss ++ tt) (vs ++ us) (as ++ bs)
  | _, _, _, _, _, _, .nil, h => h
  | _, _, _, _, _, _, .cons (as := as) (bs := bs) h1 h2, h => by
    rw [List.append_assoc]
    exact .cons h1 (SsI.app h2 h)
theorem SsI.split : ∀ {ss : List Slot} {vs : List V} {tt : List Slot} {us : List V} {cs : List Addr}, ss.length = vs.length → SsI G H (ss ++ tt) (vs ++ us) cs → ∃ as bs, cs = as ++ bs ∧ SsI G H ss vs as ∧ SsI G H tt us bs
  | [], [], _, _, cs, _, h => ⟨[], cs, rfl, .nil, h⟩
  | [], _ :: _, _, _, _, e, _ => nomatch e
  | _ :: _, [], _, _, _, e, _ => nomatch e
  | s :: ss, v :: vs, tt, us, _, e, .cons (as := a1) h1 h2 => by
    obtain ⟨as, bs, rfl, h3, h4⟩ := SsI.split (Nat.succ.inj e) h2
    exact ⟨a1 ++ as, bs, (List.append_assoc ..).symm, .cons h1 h3, h4⟩
inductive CsI (G H : Hp) : List (Addr × Cel) → List Addr → Prop where
  | nil : CsI G H [] []
  | gone {p : Addr} {cs : List (Addr × Cel)} {bs : List Addr} : CsI G H cs bs → CsI G H ((p, .gone) :: cs) bs
  | cons {p : Addr} {c : Cel} {o : HO} {as : List Addr} {cs : List (Addr × Cel)} {bs : List Addr} : H p = some o → CeI G H c o as → CsI G H cs bs → CsI G H ((p, c) :: cs) (p :: (as ++ bs))
theorem CsI.mono : ∀ {cs : List (Addr × Cel)} {bs : List Addr}, CsI G H cs bs → Ex G G' → (∀ a ∈ bs, H' a = H a) → CsI G' H' cs bs
  | _, _, .nil, _, _ => .nil
  | _, _, .gone h, e, f => .gone (CsI.mono h e f)
  | _, _, .cons hp hc h, e, f => .cons ((f _ List.mem_cons_self).trans hp) (hc.mono e fun a ha => f a (List.mem_cons_of_mem _ (List.mem_append_left _ ha))) (CsI.mono h e fun a ha => f a (List.mem_cons_of_mem _ (List.mem_append_right _ ha)))
theorem CsI.app : ∀ {cs ds : List (Addr × Cel)} {as bs : List Addr}, CsI G H cs as → CsI G H ds bs → CsI G H (cs ++ ds) (as ++ bs)
  | _, _, _, _, .nil, h => h
  | _, _, _, _, .gone h1, h => .gone (CsI.app h1 h)
  | _, _, _, _, .cons hp hc h1, h => by
    rw [List.cons_append, List.cons_append, List.append_assoc]
    exact .cons hp hc (CsI.app h1 h)
/-- the k-th cell, and the rest, that may be put together with another one -/
theorem CsI.at : ∀ {cs : List (Addr × Cel)} {bs : List Addr} (k : Nat) {p : Addr} {c : Cel}, CsI G H cs bs → cs[k]? = some (p, c) → c ≠ .gone →
    ∃ l o m r, bs = l ++ (p :: m) ++ r ∧ H p = some o ∧ CeI G H c o m ∧
      ∀ {G' H' : Hp}, Ex G G' → (∀ a ∈ l ++ r, H' a = H a) →
        (∀ {q : Addr} {c' : Cel} {o' : HO} {m' : List Addr}, H' q = some o' → CeI G' H' c' o' m' → CsI G' H' (cs.set k (q, c')) (l ++ (q :: m') ++ r)) ∧ ∀ q, CsI G' H' (cs.set k (q, .gone)) (l ++ r)
  | [], _, _, _, _, _, e, _ => by simp at e
  | _ :: cs, bs, 0, p, c, h, e, hg => by
    have e1 := Option.some.inj (show some _ = some (p, c) from e)
    cases h with
    | gone h => cases e1; exact absurd rfl hg
    | @cons p' c' o as _ bs hp hc h =>
      cases e1
      refine ⟨[], o, as, bs, rfl, hp, hc, fun eg f => ⟨fun hq hc' => ?_, fun q => ?_⟩⟩
      · exact .cons hq hc' (h.mono eg f)
      · exact .gone (h.mono eg f)
  | (p0, c0) :: cs, bs, k + 1, p, c, h, e, hg => by
    have e1 : cs[k]? = some (p, c) := e
    cases h with
    | gone h =>
      obtain ⟨l, o, m, r, rfl, hp, hc, f⟩ := CsI.at k h e1 hg
      exact ⟨l, o, m, r, rfl, hp, hc, fun eg g => ⟨fun hq hc' => .gone ((f eg g).1 hq hc'), fun q => .gone ((f eg g).2 q)⟩⟩
    | @cons _ _ o1 as _ bs hp1 hc1 h =>
      obtain ⟨l, o, m, r, rfl, hp, hc, f⟩ := CsI.at k h e1 hg
      refine ⟨p0 :: (as ++ l), o, m, r, ?_, hp, hc, fun {G' H'} eg g => ?_⟩
      · simp only [List.cons_append, List.append_assoc]
      · have g1 : ∀ a ∈ p0 :: as, H' a = H a := fun a ha => g a (by
          rcases List.mem_cons.mp ha with rfl | ha
          · exact List.mem_append_left _ List.mem_cons_self
          · exact List.mem_append_left _ (List.mem_cons_of_mem _ (List.mem_append_left _ ha)))
        have g2 : ∀ a ∈ l ++ r, H' a = H a := fun a ha => g a (by
          rcases List.mem_append.mp ha with ha | ha
          · exact List.mem_append_left _ (List.mem_cons_of_mem _ (List.mem_append_right _ ha))
          · exact List.mem_append_right _ ha)
        have k1 : H' p0 = some o1 := (g1 p0 List.mem_cons_self).trans hp1
        have k2 := hc1.mono eg fun a ha => g1 a (List.mem_cons_of_mem _ ha)
        refine ⟨fun {q c' o' m'} hq hc' => ?_, fun q => ?_⟩
        · have := CsI.cons k1 k2 ((f eg g2).1 hq hc')
          simpa only [List.cons_append, List.append_assoc, List.set_cons_succ] using this
        · have := CsI.cons k1 k2 ((f eg g2).2 q)
          simpa only [List.cons_append, List.append_assoc, List.set_cons_succ] using this
def SlOk (G : Hp) : Slot → Option V → Prop
  | .any, _ => True
  | .v x, o => o = some x
  | @Slot.val _ _ _ x, o => ∃ u, o = some u ∧ Dq G u (Datum.toD x)
  | .own _, _ => False
  | .ownA _ _, _ => False
  | .otup _, _ => False
  | .say φ, o => ∃ u, o = some u ∧ Mono φ ∧ φ G u
theorem SlOk.mono {s : Slot} {o : Option V} (h : SlOk G s o) (e : Ex G G') : SlOk G' s o := by
  cases s with
  | any => trivial
  | v x => exact h
  | val x => obtain ⟨u, h1, h2⟩ := h; exact ⟨u, h1, dq_mono e h2⟩
  | own c => exact h
  | ownA _ c => exact h
  | otup _ => exact h
  | say φ => obtain ⟨u, h1, m, h2⟩ := h; exact ⟨u, h1, m, m _ _ _ e h2⟩
def SgI (G : Hp) (sl : List Slot) (σ : St) : Prop := sl.length = σ.length ∧ ∀ (i : Nat) s, sl[i]? = some s → ∃ o, σ[i]? = some o ∧ SlOk G s o
theorem SgI.mono {sl : List Slot} {σ : St} (h : SgI G sl σ) (e : Ex G G') : SgI G' sl σ := ⟨h.1, fun i s hs => let ⟨o, h1, h2⟩ := h.2 i s hs; ⟨o, h1, h2.mono e⟩⟩
theorem SgI.set {sl : List Slot} {σ : St} (h : SgI G sl σ) (i : Nat) {s : Slot} {u : V} (hs : SlOk G s (some u)) : SgI G (sl.set i s) (σ.set i (some u)) := by
  refine ⟨by rw [List.length_set, List.length_set, h.1], fun j s' hj => ?_⟩
  by_cases e : i = j
  · subst e
    have hl : i < sl.length := by
      have := (List.getElem?_eq_some_iff.mp hj).1
      rwa [List.length_set] at this
    rw [List.getElem?_set_self hl] at hj
    cases hj
    exact ⟨some u, by rw [List.getElem?_set_self (h.1 ▸ hl)], hs⟩
  · rw [List.getElem?_set_ne e] at hj
    obtain ⟨o, h1, h2⟩ := h.2 j s' hj
    exact ⟨o, by rw [List.getElem?_set_ne e]; exact h1, h2⟩
end
/-- what holds ahead of a def: G what is said for good, F what is to stay -/
structure Base where
  G : Hp
  F : Hp
structure Stt : Type 1 where
  sl : List Slot
  cs : List (Addr × Cel)
structure St0 (B : Base) (S : Stt) (T : List Slot) (σ : St) (tv : List V) (H G : Hp) (as bs : List Addr) : Prop where
  tmp : SsI G H T tv as
  cel : CsI G H S.cs bs
  slo : SgI G S.sl σ
  nod : (as ++ bs).Nodup
  fre : ∀ a ∈ as ++ bs, G a = none ∧ B.F a = none
  gro : Ex B.G G
  new : ∀ a o, G a = some o → B.G a = some o ∨ B.F a = none ∨ ∃ xs, o = .tup xs
  sub : Ex G H
  frm : Ex B.F H
def Sta (B : Base) (S : Stt) (T : List Slot) (σ : St) (tv : List V) (H : Hp) : Prop := ∃ G as bs, St0 B S T σ tv H G as bs
def Slot.plain : Slot → Bool
  | .own _ => false
  | .ownA _ _ => false
  | .otup _ => false
  | _ => true
/-- something is known, and nothing is owned -/
def Slot.there : Slot → Bool
  | .own _ => false
  | .ownA _ _ => false
  | .otup _ => false
  | .any => false
  | _ => true
section
variable {B : Base} {S : Stt} {T : List Slot} {σ : St} {tv : List V} {H G : Hp} {x y : Slot} {v u : V}
theorem SlI.ok {as : List Addr} (h : SlI G H x v as) (hp : x.plain = true) : SlOk G x (some v) := by
  cases h with
  | any => trivial
  | v => rfl
  | val h => exact ⟨_, rfl, h⟩
  | own _ _ => cases hp
  | ownA _ _ => cases hp
  | otup _ _ => cases hp
  | say m h => exact ⟨_, rfl, m, h⟩
theorem SlI.nil {as : List Addr} (h : SlI G H x v as) (hp : x.plain = true) : as = [] := by
  cases h with
  | any => rfl
  | v => rfl
  | val h => rfl
  | own _ _ => cases hp
  | ownA _ _ => cases hp
  | otup _ _ => cases hp
  | say m h => rfl
theorem SlOk.sl (h : SlOk G x (some v)) : SlI G H x v [] := by
  cases x with
  | any => exact .any
  | v w => cases h; exact .v
  | val z => obtain ⟨_, e, h⟩ := h; cases e; exact .val h
  | own c => cases h
  | ownA _ c => cases h
  | otup _ => cases h
  | say φ => obtain ⟨_, e, m, h⟩ := h; cases e; exact .say m h
theorem Sta.top (h : Sta B S (x :: T) σ (v :: tv) H) : ∃ G as, SlI G H x v as ∧ Ex G H := by
  obtain ⟨G, as, bs, z⟩ := h
  cases z.tmp with
  | cons h1 h2 => exact ⟨G, _, h1, z.sub⟩
theorem Sta.drop (h : Sta B S (x :: T) σ (v :: tv) H) : Sta B S T σ tv H := by
  obtain ⟨G, as, bs, z⟩ := h
  obtain ⟨z1, z2, z3, z4, z5, z6, z7, z8, z9⟩ := z
  cases z1 with
  | @cons _ _ a1 _ _ a2 h1 h2 =>
    refine ⟨G, a2, bs, h2, z2, z3, ?_, fun a ha => z5 a ?_, z6, z7, z8, z9⟩
    · rw [List.append_assoc] at z4
      exact (List.nodup_append.mp z4).2.1
    · rw [List.append_assoc]
      exact List.mem_append_right _ ha
/-- a value that owns nothing is laid on top -/
theorem Sta.push (h : Sta B S T σ tv H) (hz : ∀ G, Ex G H → SlI G H x v []) : Sta B S (x :: T) σ (v :: tv) H := by
  obtain ⟨G, as, bs, z⟩ := h
  exact ⟨G, [] ++ as, bs, .cons (hz G z.sub) z.tmp, z.cel, z.slo, z.nod, z.fre, z.gro, z.new, z.sub, z.frm⟩
theorem Sta.get {i : Nat} {s : Slot} (h : Sta B S T σ tv H) (hs : S.sl[i]? = some s) (hn : s.there = true) : ∃ v, σ[i]? = some (some v) ∧ Sta B S (s :: T) σ (v :: tv) H := by
  obtain ⟨G, as, bs, z⟩ := h
  obtain ⟨o, h1, h2⟩ := z.slo.2 i s hs
  have : ∃ v, o = some v := by
    cases s with
    | any => cases hn
    | v w => exact ⟨w, h2⟩
    | val z => obtain ⟨u, e, _⟩ := h2; exact ⟨u, e⟩
    | own c => cases hn
    | ownA _ c => cases hn
    | otup _ => cases hn
    | say φ => obtain ⟨u, e, _⟩ := h2; exact ⟨u, e⟩
  obtain ⟨v, rfl⟩ := this
  exact ⟨v, h1, G, [] ++ as, bs, .cons h2.sl z.tmp, z.cel, z.slo, z.nod, z.fre, z.gro, z.new, z.sub, z.frm⟩
theorem Sta.set (h : Sta B S (x :: T) σ (v :: tv) H) (hp : x.plain = true) (i : Nat) : Sta B ⟨S.sl.set i x, S.cs⟩ T (σ.set i (some v)) tv H := by
  obtain ⟨G, as, bs, z⟩ := h
  obtain ⟨z1, z2, z3, z4, z5, z6, z7, z8, z9⟩ := z
  cases z1 with
  | @cons _ _ a1 _ _ a2 h1 h2 =>
    have e := h1.nil hp
    subst e
    exact ⟨G, a2, bs, h2, z2, z3.set i (h1.ok hp), z4, z5, z6, z7, z8, z9⟩
/-- an owned thing gets a name -/
theorem Sta.name {c : Cel} (h : Sta B S (.own c :: T) σ (v :: tv) H) : ∃ p, v = .ref p ∧ Sta B ⟨S.sl, S.cs ++ [(p, c)]⟩ (.v (.ref p) :: T) σ (.ref p :: tv) H := by
  obtain ⟨G, as, bs, z⟩ := h
  obtain ⟨z1, z2, z3, z4, z5, z6, z7, z8, z9⟩ := z
  cases z1 with
  | @cons _ _ a1 _ _ a2 h1 h2 =>
    cases h1 with
    | @own _ p o m hp hc =>
      have pm : (([] ++ a2) ++ (bs ++ (p :: (m ++ [])))).Perm ((p :: m) ++ a2 ++ bs) := by
        simp only [List.nil_append, List.append_nil]
        have e1 : (a2 ++ (bs ++ (p :: m))).Perm ((a2 ++ bs) ++ (p :: m)) := by rw [List.append_assoc]
        have e2 : ((a2 ++ bs) ++ (p :: m)).Perm ((p :: m) ++ (a2 ++ bs)) := List.perm_append_comm
        have e3 : ((p :: m) ++ (a2 ++ bs)).Perm ((p :: m) ++ a2 ++ bs) := by rw [List.append_assoc]
        exact e1.trans (e2.trans e3)
      exact ⟨p, rfl, G, [] ++ a2, bs ++ (p :: (m ++ [])), .cons .v h2, z2.app (.cons hp hc .nil), z3, pm.nodup_iff.mpr z4, fun a ha => z5 a (pm.mem_iff.mp ha), z6, z7, z8, z9⟩
end
/-! the weakest readings -/
section
variable (X : Cx)
structure teOf (e : Expr) (σ : St) (H : Hp) (Q : VK) : Prop where
  run : ∀ pins s, Inv X pins σ H s → wpAny (model X.prog X.w) X.A (eval e X.env) (EP X pins σ Q) X.xe s
structure ttOf (e : Expr) (σ : St) (H : Hp) (Q : Bool → Hp → Prop) : Prop where
  run : ∀ pins s, Inv X pins σ H s → wpAny (model X.prog X.w) X.A (isTrue e X.env (eval e X.env)) (TP X pins σ Q) X.xe s
structure twOf (e : Expr) (σ : St) (H : Hp) (Q : Bool → Hp → Prop) : Prop where
  run : ∀ whole pins s, Inv X pins σ H s → wpAny (model X.prog X.w) X.A (isTrue e X.env whole) (TP X pins σ Q) X.xe s
structure taOf (es : List Expr) (σ : St) (H : Hp) (Q : List V → Hp → Prop) : Prop where
  run : ∀ pos pins s, Inv X pins σ H s → wpAny (model X.prog X.w) X.A (spliced (backTo pos (starEach es X.env))) (AP X pins σ Q) X.xe s
structure tbOf (st : List Stmt) (D : Ends) (σ : St) (H : Hp) : Prop where
  run : ∀ pins s, Inv X pins σ H s → wpAny (model X.prog X.w) X.A (execs st X.env) (SP X pins D) X.xe s
end
section
variable {X : Cx}
theorem pe0 {e : Expr} : PE X e (teOf X e) := ⟨fun pins s _ _ _ I h => h.run pins s I⟩
theorem pt0 {e : Expr} : PT X e (ttOf X e) := ⟨fun pins s _ _ _ I h => h.run pins s I⟩
theorem pw0 {e : Expr} : PW X e (twOf X e) := ⟨fun wh pins s _ _ _ I h => h.run wh pins s I⟩
theorem pa0 {es : List Expr} : PA X es (taOf X es) := ⟨fun pos pins s _ _ _ I h => h.run pos pins s I⟩
theorem pb0 {st : List Stmt} : PSs X st (tbOf X st) := ⟨fun pins s _ _ _ I h => h.run pins s I⟩
theorem pe1 {e : Expr} {t : TE} (h : PE X e t) {σ : St} {H : Hp} {Q : VK} (q : t σ H Q) : teOf X e σ H Q := ⟨fun pins s I => h.run pins s σ H Q I q⟩
theorem pt1 {e : Expr} {t : TT} (h : PT X e t) {σ : St} {H : Hp} {Q : Bool → Hp → Prop} (q : t σ H Q) : ttOf X e σ H Q := ⟨fun pins s I => h.run pins s σ H Q I q⟩
theorem pw1 {e : Expr} {t : TT} (h : PW X e t) {σ : St} {H : Hp} {Q : Bool → Hp → Prop} (q : t σ H Q) : twOf X e σ H Q := ⟨fun wh pins s I => h.run wh pins s σ H Q I q⟩
theorem pa1 {es : List Expr} {t : TA} (h : PA X es t) {σ : St} {H : Hp} {Q : List V → Hp → Prop} (q : t σ H Q) : taOf X es σ H Q := ⟨fun pos pins s I => h.run pos pins s σ H Q I q⟩
theorem pb1 {st : List Stmt} {t : TS} (h : PSs X st t) {σ : St} {H : Hp} {D : Ends} (q : t D σ H) : tbOf X st D σ H := ⟨fun pins s I => h.run pins s σ H D I q⟩
end
/-! the judgements -/
abbrev FK := List Slot → List V → St → Hp → Prop
structure FE : Type 1 where
  nx : FK
  rt : V → Hp → Prop
  bk : FK := fun _ _ _ _ => False
  ct : FK := fun _ _ _ _ => False
abbrev FE.at (D : FE) (T : List Slot) (tv : List V) : Ends := ⟨D.nx T tv, D.rt, D.bk T tv, D.ct T tv⟩
section
variable (X : Cx) (B : Base)
def JE (S : Stt) (e : Expr) (S' : Stt) (x : Slot) : Prop := ∀ T tv σ H Q, Sta B S T σ tv H → (∀ v H', Sta B S' (x :: T) σ (v :: tv) H' → Q v H') → teOf X e σ H Q
def JT (S : Stt) (e : Expr) (S' : Stt) (b : Bool) : Prop := ∀ T tv σ H Q, Sta B S T σ tv H → (∀ H', Sta B S' T σ tv H' → Q b H') → ttOf X e σ H Q
def JW (S : Stt) (e : Expr) (S' : Stt) (b : Bool) : Prop := ∀ T tv σ H Q, Sta B S T σ tv H → (∀ H', Sta B S' T σ tv H' → Q b H') → twOf X e σ H Q
/-- arguments: from the left; they lie in their order -/
def JA (S : Stt) (es : List Expr) (S' : Stt) (xs : List Slot) : Prop := ∀ T tv σ H Q, Sta B S T σ tv H → (∀ vs H', vs.length = xs.length → Sta B S' (xs ++ T) σ (vs ++ tv) H' → Q vs H') → taOf X es σ H Q
def JS (S : Stt) (st : List Stmt) (D : FE) : Prop := ∀ T tv σ H, Sta B S T σ tv H → tbOf X st (D.at T tv) σ H
def FE.seq (D : FE) (rest : List Stmt) : FE := { D with nx := fun T tv σ H => tbOf X rest (D.at T tv) σ H }
end
end J
namespace J
open PySem L2
open PySem.W (Datum)
section
variable {X : Cx} {B : Base} {S S1 S2 S3 : Stt} {x y z : Slot} {a b e : Expr} {es : List Expr} {pos : Pos}
/-! names and constants -/
theorem je_var (i : Nat) {n : Str} {s : Slot} (hs : S.sl[i]? = some s) (hn : s.there = true := by rfl) (hN : X.N[i]? = some n := by rfl)
    (hv : Vis X.env.scope n := by first | exact Or.inl rfl | exact Or.inr (Or.inl rfl) | exact Or.inr (Or.inr rfl)) (hd : (n == ("__debug__" : Str)) = false := by decide) (hcd : (n == ("__classdict__" : Str)) = false := by decide) : JE X B S (.Name n pos) S s := by
  intro T tv σ H Q h q
  obtain ⟨v, h1, h2⟩ := h.get hs hn
  exact pe1 (pe_var hN hv hd hcd) ⟨v, h1, q v H h2⟩
theorem je_int {i : Int} {j : Nat} : JE X B S (.Constant (.int i) j pos) S (.val i) := fun T tv σ H Q h q => pe1 pe_int (q _ _ (h.push fun _ _ => .val (.int i)))
theorem je_bl {k : Bool} {j : Nat} : JE X B S (.Constant (.bool k) j pos) S (.val k) := fun T tv σ H Q h q => pe1 pe_bl (q _ _ (h.push fun _ _ => .val (.bl k)))
theorem je_str {k : Str} {j : Nat} : JE X B S (.Constant (.str k) j pos) S (.val k) := fun T tv σ H Q h q => pe1 pe_str (q _ _ (h.push fun _ _ => .val (.str k)))
theorem je_non {j : Nat} : JE X B S (.Constant .none j pos) S (.v .non) := fun T tv σ H Q h q => pe1 pe_non (q _ _ (h.push fun _ _ => .v))
/-- the same value, said otherwise -/
theorem je_as (h : JE X B S e S1 x) (k : ∀ {G H u as}, SlI G H x u as → SlI G H y u as) : JE X B S e S1 y := by
  intro T tv σ H Q hs q
  refine h T tv σ H Q hs fun v H' g => q v H' ?_
  obtain ⟨G, as, bs, z1, z2, z3, z4, z5, z6, z7, z8, z9⟩ := g
  cases z1 with
  | cons h1 h2 => exact ⟨G, _, bs, .cons (k h1) h2, z2, z3, z4, z5, z6, z7, z8, z9⟩
theorem jt_eq {p q : Bool} (h : JT X B S e S1 p) (k : p = q) : JT X B S e S1 q := k ▸ h
/-! two values, one answer -/
def O2 (X : Cx) (B : Base) (r : R2) (S : Stt) (x y : Slot) (S' : Stt) (z : Slot) : Prop := ∀ T tv σ v u H Q, Sta B S (y :: x :: T) σ (u :: v :: tv) H → (∀ w H', Sta B S' (z :: T) σ (w :: tv) H' → Q w H') → r v u H Q
def O1 (X : Cx) (B : Base) (r : V → Hp → VK → Prop) (S : Stt) (x : Slot) (S' : Stt) (z : Slot) : Prop := ∀ T tv σ v H Q, Sta B S (x :: T) σ (v :: tv) H → (∀ w H', Sta B S' (z :: T) σ (w :: tv) H' → Q w H') → r v H Q
theorem je_op {op : Operator} {r : R2} (ho : OpR X (binaryOp op) r) (ha : JE X B S a S1 x) (hb : JE X B S1 b S2 y) (hr : O2 X B r S2 x y S3 z) : JE X B S (.BinOp a op b pos) S3 z := by
  intro T tv σ H Q h q
  refine pe1 (pe_op ho pe0 pe0) (ha _ _ _ _ _ h fun v H1 h1 => hb _ _ _ _ _ h1 fun u H2 h2 => hr _ _ _ _ _ _ _ h2 q)
theorem je_un {op : UnaryOp} {r : V → Hp → VK → Prop} (ho : UnR X (unaryOp op) r) (ha : JE X B S a S1 x) (hr : O1 X B r S1 x S2 z) : JE X B S (.UnaryOp op a pos) S2 z := by
  intro T tv σ H Q h q
  refine pe1 (pe_un ho pe0) (ha _ _ _ _ _ h fun v H1 h1 => hr _ _ _ _ _ _ h1 q)
theorem Sta.bool {T : List Slot} {σ : St} {tv : List V} {H : Hp} {v : V} {k : Bool} (h : Sta B S (.val k :: T) σ (v :: tv) H) : v = .bl k := by
  obtain ⟨G, as, h1, _⟩ := h.top
  cases h1 with
  | val h => cases (show Dq G v (.bool k) from h); rfl
theorem Sta.int {T : List Slot} {σ : St} {tv : List V} {H : Hp} {v : V} {k : Int} (h : Sta B S (.val k :: T) σ (v :: tv) H) : v = .int k := by
  obtain ⟨G, as, h1, _⟩ := h.top
  cases h1 with
  | val h => cases (show Dq G v (.int k) from h); rfl
theorem Sta.str {T : List Slot} {σ : St} {tv : List V} {H : Hp} {v : V} {k : Str} (h : Sta B S (.val k :: T) σ (v :: tv) H) : v = .str k := by
  obtain ⟨G, as, h1, _⟩ := h.top
  cases h1 with
  | val h => cases (show Dq G v (.str k) from h); rfl
theorem Sta.exact {T : List Slot} {σ : St} {tv : List V} {H : Hp} {v w : V} (h : Sta B S (.v w :: T) σ (v :: tv) H) : v = w := by
  obtain ⟨G, as, h1, _⟩ := h.top
  cases h1 with
  | v => rfl
theorem jt_cmp {op : CmpOp} {r : R2} {k : Bool} (ho : OpR X (compareOp op) r) (ha : JE X B S a S1 x) (hb : JE X B S1 b S2 y) (hr : O2 X B r S2 x y S3 (.val k)) (hm : behindInMarks op b = false) : JT X B S (.Compare a [op] [b] pos) S3 k := by
  intro T tv σ H Q h q
  refine pt1 (pt_cmpR ho pe0 pe0 hm) (ha _ _ _ _ _ h fun v H1 h1 => hb _ _ _ _ _ h1 fun u H2 h2 => hr _ _ _ _ _ _ _ h2 fun w H3 h3 => ?_)
  have e := h3.bool
  subst e
  exact ⟨k, rfl, q _ h3.drop⟩
/-! whole numbers -/
theorem o2_i0 {g : Int → Int → V} {i j : Int} {z : Slot} (hz : ∀ G H, SlI G H z (g i j) []) : O2 X B (rI0 g) S (.val i) (.val j) S z := by
  intro T tv σ v u H Q h q
  have e1 := h.int
  have e2 := h.drop.int
  subst e1 e2
  exact ⟨i, j, rfl, rfl, q _ _ (h.drop.drop.push fun G _ => hz G H)⟩
theorem o2_i {C : Int → Int → Prop} {g : Int → Int → V} {i j : Int} {z : Slot} (hc : C i j) (hz : ∀ G H, SlI G H z (g i j) []) : O2 X B (rI C g) S (.val i) (.val j) S z := by
  intro T tv σ v u H Q h q
  have e1 := h.int
  have e2 := h.drop.int
  subst e1 e2
  exact ⟨i, j, rfl, rfl, hc, q _ _ (h.drop.drop.push fun G _ => hz G H)⟩
theorem sl_int {G H : Hp} (i : Int) : SlI G H (.val i) (.int i) [] := .val (.int i)
theorem sl_bl {G H : Hp} (k : Bool) : SlI G H (.val k) (.bl k) [] := .val (.bl k)
variable {i j : Int}
theorem je_add (ha : JE X B S a S1 (.val i)) (hb : JE X B S1 b S2 (.val j)) : JE X B S (.BinOp a .Add b pos) S2 (.val (i + j)) := je_op op_add ha hb (o2_i0 fun _ _ => sl_int _)
theorem je_sub (ha : JE X B S a S1 (.val i)) (hb : JE X B S1 b S2 (.val j)) : JE X B S (.BinOp a .Sub b pos) S2 (.val (i - j)) := je_op op_sub ha hb (o2_i0 fun _ _ => sl_int _)
theorem je_mul (ha : JE X B S a S1 (.val i)) (hb : JE X B S1 b S2 (.val j)) (hc : CMul i j) : JE X B S (.BinOp a .Mult b pos) S2 (.val (i * j)) := je_op op_mul ha hb (o2_i hc fun _ _ => sl_int _)
theorem je_div (ha : JE X B S a S1 (.val i)) (hb : JE X B S1 b S2 (.val j)) (hc : 0 < j ∧ j < 18446744073709551616) : JE X B S (.BinOp a .FloorDiv b pos) S2 (.val (i / j)) :=
  je_op op_fdivW ha hb (o2_i (wide_div (b := 64) hc.1 (by have := hc.1; have := hc.2; omega) (by decide) (by decide)) fun _ _ => sl_int _)
theorem je_mod (ha : JE X B S a S1 (.val i)) (hb : JE X B S1 b S2 (.val j)) (hc : 0 < j) : JE X B S (.BinOp a .Mod b pos) S2 (.val (i % j)) := je_op op_mod ha hb (o2_i hc fun _ _ => sl_int _)
theorem je_pow {n : Nat} (ha : JE X B S a S1 (.val i)) (hb : JE X B S1 b S2 (.val (n : Int))) (hn : n ≤ 1000000) (hc : i.natAbs < 18446744073709551616) : JE X B S (.BinOp a .Pow b pos) S2 (.val (i ^ n)) :=
  je_op op_pow ha hb (o2_i ⟨Int.natCast_nonneg _, by omega, hc⟩ fun _ _ => sl_int _)
theorem je_neg (ha : JE X B S a S1 (.val i)) : JE X B S (.UnaryOp .USub a pos) S1 (.val (-i)) := je_un un_neg ha fun T tv σ v H Q h q => by
  have e := h.int
  subst e
  exact ⟨i, rfl, q _ _ (h.drop.push fun _ _ => sl_int _)⟩
/-! comparisons of whole numbers: as tests, as values -/
section
variable {op : CmpOp}
theorem jt_lt (ha : JE X B S a S1 (.val i)) (hb : JE X B S1 b S2 (.val j)) : JT X B S (.Compare a [.Lt] [b] pos) S2 (decide (i < j)) := jt_cmp op_lt ha hb (o2_i0 fun _ _ => sl_bl _) (nomark _)
theorem jt_gt (ha : JE X B S a S1 (.val i)) (hb : JE X B S1 b S2 (.val j)) : JT X B S (.Compare a [.Gt] [b] pos) S2 (decide (j < i)) := jt_cmp op_gt ha hb (o2_i0 fun _ _ => sl_bl _) (nomark _)
theorem jt_ge (ha : JE X B S a S1 (.val i)) (hb : JE X B S1 b S2 (.val j)) : JT X B S (.Compare a [.GtE] [b] pos) S2 (decide (j ≤ i)) := jt_cmp op_ge ha hb (o2_i0 fun _ _ => sl_bl _) (nomark _)
end
/-! and, or, not; tests of values that are truths -/
section
variable {p q : Bool} {rest : List Expr}
theorem jt_bl (h : JE X B S e S1 (.val p)) (he : ∀ whole, isTrue e X.env whole = (do let v ← whole; standAt e.pos; holding [v] (truthy v)) := by intro _; rfl) : JT X B S e S1 p := by
  intro T tv σ H Q hs k
  refine pt1 (pt_val pe0 he) (h _ _ _ _ _ hs fun v H1 h1 => ?_)
  have e := h1.bool
  subst e
  exact ⟨p, rfl, k _ h1.drop⟩
theorem jt_not (h : JT X B S a S1 p) : JT X B S (.UnaryOp .Not a pos) S1 (!p) := fun T tv σ H Q hs k => pt1 (pt_not pt0) (h _ _ _ _ _ hs fun H1 h1 => k _ h1)
theorem jw_and1 (h : JT X B S a S1 p) : JW X B S (.BoolOp .And [a] pos) S1 p := fun T tv σ H Q hs k => pw1 (pw_and1 pt0) (h _ _ _ _ _ hs k)
theorem jw_or1 (h : JT X B S a S1 p) : JW X B S (.BoolOp .Or [a] pos) S1 p := fun T tv σ H Q hs k => pw1 (pw_or1 pt0) (h _ _ _ _ _ hs k)
/-- the second one is asked where the first one is true; it leaves the state (pure), or the state is one for both -/
theorem jw_and (h : JT X B S a S1 p) (h2 : p = true → JW X B S1 (.BoolOp .And (b :: rest) pos) S1 q) : JW X B S (.BoolOp .And (a :: b :: rest) pos) S1 (p && q) := by
  intro T tv σ H Q hs k
  refine pw1 (pw_and pt0 pw0) (h _ _ _ _ _ hs fun H1 h1 => ?_)
  cases p with
  | true => exact iteT (h2 rfl _ _ _ _ _ h1 fun H2 g2 => k _ g2)
  | false => exact iteF (k _ h1)
theorem jw_or (h : JT X B S a S1 p) (h2 : p = false → JW X B S1 (.BoolOp .Or (b :: rest) pos) S1 q) : JW X B S (.BoolOp .Or (a :: b :: rest) pos) S1 (p || q) := by
  intro T tv σ H Q hs k
  refine pw1 (pw_or pt0 pw0) (h _ _ _ _ _ hs fun H1 h1 => ?_)
  cases p with
  | true => exact iteT (k _ h1)
  | false => exact iteF (h2 rfl _ _ _ _ _ h1 fun H2 g2 => k _ g2)
theorem JW.t (h : JW X B S e S1 p) : JT X B S e S1 p := fun T tv σ H Q hs k => pt1 pw0.pt (h _ _ _ _ _ hs k)
end
/-! arguments -/
theorem SsI.rot {G H : Hp} {xs T : List Slot} {vs tv : List V} {s : Slot} {u : V} {as : List Addr} (hl : xs.length = vs.length) (h : SsI G H (xs ++ s :: T) (vs ++ u :: tv) as) : ∃ bs, SsI G H (s :: (xs ++ T)) (u :: (vs ++ tv)) bs ∧ bs.Perm as := by
  obtain ⟨a1, a2, rfl, h1, h2⟩ := SsI.split hl h
  cases h2 with
  | @cons _ _ b1 _ _ b2 h3 h4 =>
    refine ⟨_, .cons h3 (h1.app h4), ?_⟩
    have e1 : (b1 ++ (a1 ++ b2)).Perm ((a1 ++ b2) ++ b1) := List.perm_append_comm
    have e2 : ((a1 ++ b2) ++ b1).Perm (a1 ++ (b2 ++ b1)) := by rw [List.append_assoc]
    exact e1.trans (e2.trans (List.Perm.append_left _ List.perm_append_comm))
theorem Sta.rot {xs T : List Slot} {σ : St} {vs tv : List V} {H : Hp} {s : Slot} {u : V} (hl : xs.length = vs.length) (h : Sta B S (xs ++ s :: T) σ (vs ++ u :: tv) H) : Sta B S (s :: (xs ++ T)) σ (u :: (vs ++ tv)) H := by
  obtain ⟨G, as, bs, z1, z2, z3, z4, z5, z6, z7, z8, z9⟩ := h
  obtain ⟨cs, h1, hp⟩ := z1.rot hl
  have hp2 : (cs ++ bs).Perm (as ++ bs) := List.Perm.append_right _ hp
  exact ⟨G, cs, bs, h1, z2, z3, hp2.nodup_iff.mpr z4, fun a ha => z5 a (hp2.mem_iff.mp ha), z6, z7, z8, z9⟩
theorem ja_nil : JA X B S [] S [] := fun T tv σ H Q h q => pa1 pa_nil (q [] H rfl h)
theorem ja_cons {xs : List Slot} (h1 : JE X B S e S1 x) (h2 : JA X B S1 es S2 xs) (hs : starEach (e :: es) X.env = (false, eval e X.env) :: starEach es X.env := by rfl) : JA X B S (e :: es) S2 (x :: xs) := by
  intro T tv σ H Q h q
  exact pa1 (pa_cons pe0 pa0 hs) (h1 _ _ _ _ _ h fun v H1 g1 => h2 _ _ _ _ _ g1 fun vs H2 hl g2 => q (v :: vs) H2 (congrArg Nat.succ hl) (Sta.rot hl.symm g2))
end
end J
namespace J
open PySem L2
open PySem.W (Datum)
/-! ### the mirror's loops -/
def forM {ι α : Type} (f : ι → α → Option ι) : List α → ι → Option ι
  | [], s => some s
  | x :: xs, s => (f s x).bind (forM f xs)
/-- a turn: on, out of the loop, out of the def -/
inductive Lp (ι ρ : Type) where
  | nx (s : ι)
  | bk (s : ι)
  | rt (r : ρ)
/-- .. the loop: ended (or left by break), or the def is left -/
def forL {ι α ρ : Type} (f : ι → α → Option (Lp ι ρ)) : List α → ι → Option (Sum ι ρ)
  | [], s => some (.inl s)
  | x :: xs, s => (f s x).bind fun
    | .nx s' => forL f xs s'
    | .bk s' => some (.inl s')
    | .rt r => some (.inr r)
theorem bnd {α β : Type} {m : Option α} {f : α → Option β} {r : β} {C : Prop} (h : m.bind f = some r) (k : ∀ x, m = some x → f x = some r → C) : C := by
  cases m with
  | none => cases h
  | some x => exact k x rfl h
/-! ### statements -/
section
variable {X : Cx} {B : Base} {S S1 S2 S3 : Stt} {x y z : Slot} {a b e : Expr} {es : List Expr} {pos : Pos} {D : FE} {rest : List Stmt}
theorem js_step {st : Stmt} {t : TS} (hp : PS X st t) (h : ∀ T tv σ H, Sta B S T σ tv H → t ((D.seq X rest).at T tv) σ H) : JS X B S (st :: rest) D :=
  fun T tv σ H hs => pb1 (pss_cons hp pb0) (h T tv σ H hs)
theorem js_nil (h : ∀ T tv σ H, Sta B S T σ tv H → D.nx T tv σ H) : JS X B S [] D := fun T tv σ H hs => pb1 pss_nil (h T tv σ H hs)
theorem js_end (h : JS X B S rest D) : JS X B S [] (D.seq X rest) := js_nil h
theorem js_imp (h : ∀ T tv σ H, Sta B S T σ tv H → Sta B S1 T σ tv H) (k : JS X B S1 rest D) : JS X B S rest D := fun T tv σ H hs => k T tv σ H (h T tv σ H hs)
theorem js_set (i : Nat) {n : Str} {pos' : Pos} (he : JE X B S e S1 x) (k : JS X B ⟨S1.sl.set i x, S1.cs⟩ rest D) (hp : x.plain = true := by rfl) (hN : X.N.Nodup := by assumption) (hi : X.N[i]? = some n := by rfl)
    (hx : Loc X.env.scope n := by first | exact .inl rfl | exact .inr rfl) (hs : swapsWith e (some (.Name n pos')) pos.line X.env = pure false := by rfl) (hf : X.fn n = true ∨ X.env.scope.names.lookup n = some .local := by first | exact .inl rfl | exact .inr rfl) :
    JS X B S (.Assign [.Name n pos'] e pos :: rest) D :=
  js_step (ps_set hN hi hx pe0 hs hf) fun T tv σ H h => he _ _ _ _ _ h fun v H1 h1 => k _ _ _ _ (h1.set hp i)
/-- a new thing under a name -/
theorem js_new (i : Nat) {n : Str} {pos' : Pos} {c : Cel} (he : JE X B S e S1 (.own c)) (k : ∀ p, JS X B ⟨S1.sl.set i (.v (.ref p)), S1.cs ++ [(p, c)]⟩ rest D) (hN : X.N.Nodup := by assumption) (hi : X.N[i]? = some n := by rfl)
    (hx : Loc X.env.scope n := by first | exact .inl rfl | exact .inr rfl) (hs : swapsWith e (some (.Name n pos')) pos.line X.env = pure false := by rfl) (hf : X.fn n = true ∨ X.env.scope.names.lookup n = some .local := by first | exact .inl rfl | exact .inr rfl) :
    JS X B S (.Assign [.Name n pos'] e pos :: rest) D :=
  js_step (ps_set hN hi hx pe0 hs hf) fun T tv σ H h => he _ _ _ _ _ h fun v H1 h1 => by
    obtain ⟨p, rfl, h2⟩ := h1.name
    exact k p _ _ _ _ (h2.set rfl i)
theorem js_expr (he : JE X B S e S1 x) (k : JS X B S1 rest D) (hs : swapsWith e none pos.line X.env = pure false := by rfl) : JS X B S (.Expr e pos :: rest) D :=
  js_step (ps_expr pe0 hs) fun T tv σ H h => he _ _ _ _ _ h fun v H1 h1 => k _ _ _ _ h1.drop
/-- what a def hands back, and the cells that it leaves -/
def Out (B : Base) (x : Slot) (cs : List (Addr × Cel)) : V → Hp → Prop := fun v H => Sta B ⟨[], cs⟩ [x] [] [v] H
theorem Sta.only {T : List Slot} {σ : St} {tv : List V} {H : Hp} {v : V} (h : Sta B S (x :: T) σ (v :: tv) H) : Out B x S.cs v H := by
  obtain ⟨G, as, bs, z1, z2, z3, z4, z5, z6, z7, z8, z9⟩ := h
  cases z1 with
  | @cons _ _ a1 _ _ a2 h1 h2 =>
    have hl : (a1 ++ [] ++ bs).Sublist (a1 ++ a2 ++ bs) := ((List.Sublist.refl a1).append (List.nil_sublist a2)).append (List.Sublist.refl bs)
    exact ⟨G, a1 ++ [], bs, .cons h1 .nil, z2, ⟨rfl, fun i s hs => by simp at hs⟩, hl.nodup z4, fun a ha => z5 a (hl.mem ha), z6, z7, z8, z9⟩
theorem js_ret (he : JE X B S e S1 x) (k : ∀ v H', Out B x S1.cs v H' → D.rt v H') : JS X B S (.Return (some e) pos :: rest) D :=
  js_step (ps_ret pe0) fun T tv σ H h => he _ _ _ _ _ h fun v H1 h1 => k v H1 h1.only
/-- both ways go on with what follows -/
theorem js_if {c : Expr} {th el : List Stmt} {p : Bool} (hc : JT X B S c S1 p) (h1 : p = true → JS X B S1 th (D.seq X rest)) (h2 : p = false → JS X B S1 el (D.seq X rest)) : JS X B S (.If c th el pos :: rest) D :=
  js_step (ps_if pt0 pb0 pb0) fun T tv σ H h => hc _ _ _ _ _ h fun H1 g => by
    cases p with
    | true => exact iteT (h1 rfl _ _ _ _ g)
    | false => exact iteF (h2 rfl _ _ _ _ g)
/-- less is known: some slots are forgotten, the last cells dropped -/
inductive Fgt : List Slot → List Slot → Prop where
  | nil : Fgt [] []
  | keep {s : Slot} {l m : List Slot} : Fgt l m → Fgt (s :: l) (s :: m)
  | drop {s : Slot} {l m : List Slot} : Fgt l m → Fgt (s :: l) (.any :: m)
theorem Fgt.len : ∀ {l m : List Slot}, Fgt l m → l.length = m.length
  | _, _, .nil => rfl
  | _, _, .keep h => congrArg Nat.succ h.len
  | _, _, .drop h => congrArg Nat.succ h.len
theorem Fgt.at : ∀ {l m : List Slot}, Fgt l m → ∀ (i : Nat) s, m[i]? = some s → s = .any ∨ l[i]? = some s
  | _, _, .nil, i, s, h => by simp at h
  | _, _, .keep h, 0, s, e => .inr e
  | _, _, .keep h, i + 1, s, e => h.at i s e
  | _, _, .drop h, 0, s, e => .inl (Option.some.inj e).symm
  | _, _, .drop h, i + 1, s, e => h.at i s e
theorem Sta.fgt {T : List Slot} {σ : St} {tv : List V} {H : Hp} {sl : List Slot} (f : Fgt S.sl sl) (h : Sta B S T σ tv H) : Sta B ⟨sl, S.cs⟩ T σ tv H := by
  obtain ⟨G, as, bs, z1, z2, z3, z4, z5, z6, z7, z8, z9⟩ := h
  refine ⟨G, as, bs, z1, z2, ⟨f.len.symm.trans z3.1, fun i s hs => ?_⟩, z4, z5, z6, z7, z8, z9⟩
  rcases f.at i s hs with e | e
  · subst e
    have hi := (List.getElem?_eq_some_iff.mp hs).1
    have hi2 : i < σ.length := z3.1 ▸ f.len ▸ hi
    exact ⟨σ[i], List.getElem?_eq_getElem hi2, trivial⟩
  · exact z3.2 i s e
theorem CsI.take {G H : Hp} : ∀ {cs : List (Addr × Cel)} {bs : List Addr} (n : Nat), CsI G H cs bs → ∃ ds, CsI G H (cs.take n) ds ∧ ds.Sublist bs
  | _, _, 0, _ => ⟨[], .nil, List.nil_sublist _⟩
  | _, _, n + 1, .nil => ⟨[], .nil, List.nil_sublist _⟩
  | _, _, n + 1, .gone h => let ⟨ds, h1, h2⟩ := CsI.take n h; ⟨ds, .gone h1, h2⟩
  | _, _, n + 1, .cons hp hc h => let ⟨ds, h1, h2⟩ := CsI.take n h; ⟨_, .cons hp hc h1, ((List.Sublist.refl _).append h2).cons_cons _⟩
theorem Sta.take {T : List Slot} {σ : St} {tv : List V} {H : Hp} (n : Nat) (h : Sta B S T σ tv H) : Sta B ⟨S.sl, S.cs.take n⟩ T σ tv H := by
  obtain ⟨G, as, bs, z1, z2, z3, z4, z5, z6, z7, z8, z9⟩ := h
  obtain ⟨ds, h1, h2⟩ := z2.take n
  have hl : (as ++ ds).Sublist (as ++ bs) := (List.Sublist.refl as).append h2
  exact ⟨G, as, ds, z1, h1, z3, hl.nodup z4, fun a ha => z5 a (hl.mem ha), z6, z7, z8, z9⟩
theorem Out.take {cs : List (Addr × Cel)} {v : V} {H : Hp} (n : Nat) (h : Out B x cs v H) : Out B x (cs.take n) v H := Sta.take (S := ⟨[], cs⟩) n h
/-! ### while -/
/-! ### for -/
structure tiOf (X : Cx) (tg iter : Expr) (σ : St) (H : Hp) (R : It → Hp → Prop) : Prop where
  run : ∀ pins s, Inv X pins σ H s → wpAny (model X.prog X.w) X.A (eval iter X.env) (fun v s1 => wpAny (model X.prog X.w) X.A (pyIter v) (PIE X pins σ tg R) X.xe s1) X.xe s
theorem pi0 {tg iter : Expr} : PI X tg iter (tiOf X tg iter) := ⟨fun pins s _ _ _ I h => h.run pins s I⟩
theorem pi1 {tg iter : Expr} {t : TI} (h : PI X tg iter t) {σ : St} {H : Hp} {R : It → Hp → Prop} (q : t σ H R) : tiOf X tg iter σ H R := ⟨fun pins s I => h.run pins s σ H R I q⟩
structure tgOf (X : Cx) (tg : Expr) (v : V) (σ : St) (H : Hp) (Q : St → Hp → Prop) : Prop where
  run : ∀ pins s u, Inv X pins σ H s → RelV v u → wpAny (model X.prog X.w) X.A (assign tg X.env u) (fun _ s' => ∃ σ' H', Inv X pins σ' H' s' ∧ Q σ' H') X.xe s
theorem pg0 {tg : Expr} : PG X tg (tgOf X tg) := ⟨fun pins s _ _ _ u _ I r h => h.run pins s u I r⟩
theorem pg1 {tg : Expr} {t : TG} (h : PG X tg t) {v : V} {σ : St} {H : Hp} {Q : St → Hp → Prop} (q : t v σ H Q) : tgOf X tg v σ H Q := ⟨fun pins s u I r => h.run pins s σ H v u Q I r q⟩
theorem wipe_get (σ : St) : ∀ (vs : List Nat) (j : Nat), (wipe σ vs)[j]? = if j ∈ vs then (σ[j]?).map (fun _ => none) else σ[j]?
  | [], j => by rw [if_neg (by simp)]; rfl
  | v :: vs, j => by
    have ih := wipe_get σ vs j
    show ((wipe σ vs).set v none)[j]? = _
    by_cases e : v = j
    · subst e
      rw [if_pos List.mem_cons_self]
      by_cases hl : v < σ.length
      · rw [List.getElem?_set_self (by rw [wipe_length]; exact hl), List.getElem?_eq_getElem hl]; rfl
      · rw [List.getElem?_eq_none (by rw [List.length_set, wipe_length]; omega), List.getElem?_eq_none (by omega)]; rfl
    · rw [List.getElem?_set_ne e, ih]
      by_cases h : j ∈ vs
      · rw [if_pos h, if_pos (List.mem_cons_of_mem _ h)]
      · rw [if_neg h, if_neg (by intro h2; rcases List.mem_cons.mp h2 with h3 | h3; exact e h3.symm; exact h h3)]
theorem wipe_set {σ : St} {vs : List Nat} {i : Nat} {o : Option V} (h : i ∈ vs) : wipe (σ.set i o) vs = wipe σ vs := by
  apply List.ext_getElem?
  intro j
  rw [wipe_get, wipe_get]
  by_cases hj : j ∈ vs
  · rw [if_pos hj, if_pos hj, List.getElem?_set]
    by_cases e : i = j
    · subst e
      rw [if_pos rfl]
      by_cases hl : i < σ.length
      · rw [if_pos hl, List.getElem?_eq_getElem hl]; rfl
      · rw [if_neg hl, List.getElem?_eq_none (by omega)]
    · rw [if_neg e]
  · rw [if_neg hj, if_neg hj, List.getElem?_set_ne (fun e : i = j => hj (e ▸ h))]
theorem wipe_wipe {σ : St} {vs : List Nat} : wipe (wipe σ vs) vs = wipe σ vs := by
  apply List.ext_getElem?
  intro j
  rw [wipe_get, wipe_get]
  by_cases hj : j ∈ vs
  · rw [if_pos hj, if_pos hj]
    cases σ[j]? <;> rfl
  · rw [if_neg hj]
/-- no slots but ws have changed -/
def Chg (ws : List Nat) (σ σ' : St) : Prop := ∀ vs : List Nat, (∀ i ∈ ws, i ∈ vs) → wipe σ' vs = wipe σ vs
theorem Chg.refl (ws : List Nat) (σ : St) : Chg ws σ σ := fun _ _ => rfl
theorem Chg.app {ws ws' : List Nat} {σ σ1 σ2 : St} (a : Chg ws σ σ1) (b : Chg ws' σ1 σ2) : Chg (ws ++ ws') σ σ2 := fun vs h => (b vs fun i hi => h i (List.mem_append_right _ hi)).trans (a vs fun i hi => h i (List.mem_append_left _ hi))
/-- a target takes the topmost value; ws: the slots that it sets -/
def JG (X : Cx) (B : Base) (S : Stt) (tg : Expr) (x : Slot) (S' : Stt) (ws : List Nat) : Prop := ∀ T tv σ v H Q, Sta B S (x :: T) σ (v :: tv) H → (∀ σ' H', Chg ws σ σ' → Sta B S' T σ' tv H' → Q σ' H') → tgOf X tg v σ H Q
theorem jg_name (i : Nat) {n : Str} (hp : x.plain = true := by rfl) (hN : X.N.Nodup := by assumption) (hi : X.N[i]? = some n := by rfl) (hx : Loc X.env.scope n := by first | exact .inl rfl | exact .inr rfl) (hf : X.fn n = true ∨ X.env.scope.names.lookup n = some .local := by first | exact .inl rfl | exact .inr rfl) :
    JG X B S (.Name n pos) x ⟨S.sl.set i x, S.cs⟩ [i] := fun T tv σ v H Q h q => pg1 (pg_name hN hi hx hf) (q _ _ (fun vs hv => wipe_set (hv i List.mem_cons_self)) (h.set hp i))
/-- what a loop walks: n turns, the items; zs are held meanwhile; ok: the states that let it be -/
structure Wk (X : Cx) (B : Base) (zs : List Slot) (zv : List V) (its : List Slot) (ok : Stt → Prop) (J : It) : Prop where
  go : ∀ S T σ tv H (i : Nat) x, ok S → its[i]? = some x → Sta B S (zs ++ T) σ (zv ++ tv) H → J.go i H ∧ ∀ v H', J.yld i H v H' → Sta B S (x :: (zs ++ T)) σ (v :: (zv ++ tv)) H'
  stop : ∀ S T σ tv H, ok S → Sta B S (zs ++ T) σ (zv ++ tv) H → J.stop its.length H
def JI (X : Cx) (B : Base) (S : Stt) (tg iter : Expr) (S' : Stt) (zs its : List Slot) (ok : Stt → Prop) : Prop := ∀ T tv σ H R, Sta B S T σ tv H → (∀ J zv H', zv.length = zs.length → Sta B S' (zs ++ T) σ (zv ++ tv) H' → Wk X B zs zv its ok J → R J H') → tiOf X tg iter σ H R
theorem Sta.drops : ∀ {zs T : List Slot} {σ : St} {zv tv : List V} {H : Hp}, zv.length = zs.length → Sta B S (zs ++ T) σ (zv ++ tv) H → Sta B S T σ tv H
  | [], _, _, [], _, _, _, h => h
  | _ :: zs, _, _, _ :: zv, _, _, e, h => Sta.drops (Nat.succ.inj e) h.drop
  | [], _, _, _ :: _, _, _, e, _ => nomatch e
  | _ :: _, _, _, [], _, _, e, _ => nomatch e
end
end J
namespace J
open PySem L2
open PySem.W (Datum)
/-! ### new things -/
section
variable {G H : Hp}
mutual
theorem SlI.def : ∀ {s : Slot} {u : V} {as : List Addr}, SlI G H s u as → ∀ a ∈ as, ∃ o, H a = some o
  | _, _, _, .any, _, h => nomatch h
  | _, _, _, .v, _, h => nomatch h
  | _, _, _, @SlI.val _ _ _ _ _ _ _ _, _, h => nomatch h
  | _, _, _, .own hp hc, a, h => (List.mem_cons.mp h).elim (fun e => ⟨_, e ▸ hp⟩) fun h => CeI.def hc a h
  | _, _, _, .ownA hp hc, a, h => (List.mem_cons.mp h).elim (fun e => ⟨_, e ▸ hp⟩) fun h => CeI.def hc a h
  | _, _, _, .otup _ hs, a, h => SsI.def hs a h
theorem CeI.def : ∀ {c : Cel} {o : HO} {as : List Addr}, CeI G H c o as → ∀ a ∈ as, ∃ o, H a = some o
  | _, _, _, .lst h, a, ha => SsI.def h a ha
  | _, _, _, .ins _ h, a, ha => SsI.def h a ha
  | _, _, _, .dk _ h, a, ha => SsI.def h a ha
  | _, _, _, .fdk h, a, ha => SsI.def h a ha
theorem SsI.def : ∀ {ss : List Slot} {vs : List V} {as : List Addr}, SsI G H ss vs as → ∀ a ∈ as, ∃ o, H a = some o
  | _, _, _, .nil, _, h => nomatch h
  | _, _, _, .cons h1 h2, a, ha => (List.mem_append.mp ha).elim (fun h => SlI.def h1 a h) fun h => SsI.def h2 a h
end
theorem CsI.def : ∀ {cs : List (Addr × Cel)} {as : List Addr}, CsI G H cs as → ∀ a ∈ as, ∃ o, H a = some o
  | _, _, .nil, _, h => nomatch h
  | _, _, .gone h, a, ha => CsI.def h a ha
  | _, _, .cons hp hc h, a, ha => (List.mem_cons.mp ha).elim (fun e => ⟨_, e ▸ hp⟩) fun ha => (List.mem_append.mp ha).elim (fun h => hc.def a h) fun h' => CsI.def h a h'
theorem CeI.ntO {c : Cel} {o : HO} {as : List Addr} (h : CeI G H c o as) : NT o := by
  cases h with
  | say _ _ n => exact n
  | lst _ => exact fun _ z => nomatch z
  | ins _ _ => exact fun _ z => nomatch z
  | dk _ _ => exact fun _ z => nomatch z
  | fdk _ => exact fun _ z => nomatch z
mutual
theorem SlI.nt : ∀ {s : Slot} {u : V} {as : List Addr}, SlI G H s u as → ∀ a ∈ as, ∃ o, H a = some o ∧ NT o
  | _, _, _, .any, _, h => nomatch h
  | _, _, _, .v, _, h => nomatch h
  | _, _, _, @SlI.val _ _ _ _ _ _ _ _, _, h => nomatch h
  | _, _, _, .own hp hc, a, h => (List.mem_cons.mp h).elim (fun e => ⟨_, e ▸ hp, CeI.ntO hc⟩) fun h => CeI.nt hc a h
  | _, _, _, .ownA hp hc, a, h => (List.mem_cons.mp h).elim (fun e => ⟨_, e ▸ hp, CeI.ntO hc⟩) fun h => CeI.nt hc a h
  | _, _, _, .otup _ hs, a, h => SsI.nt hs a h
theorem CeI.nt : ∀ {c : Cel} {o : HO} {as : List Addr}, CeI G H c o as → ∀ a ∈ as, ∃ o, H a = some o ∧ NT o
  | _, _, _, .lst h, a, ha => SsI.nt h a ha
  | _, _, _, .ins _ h, a, ha => SsI.nt h a ha
  | _, _, _, .dk _ h, a, ha => SsI.nt h a ha
  | _, _, _, .fdk h, a, ha => SsI.nt h a ha
theorem SsI.nt : ∀ {ss : List Slot} {vs : List V} {as : List Addr}, SsI G H ss vs as → ∀ a ∈ as, ∃ o, H a = some o ∧ NT o
  | _, _, _, .nil, _, h => nomatch h
  | _, _, _, .cons h1 h2, a, ha => (List.mem_append.mp ha).elim (fun h => SlI.nt h1 a h) fun h => SsI.nt h2 a h
end
theorem CsI.nt : ∀ {cs : List (Addr × Cel)} {as : List Addr}, CsI G H cs as → ∀ a ∈ as, ∃ o, H a = some o ∧ NT o
  | _, _, .nil, _, h => nomatch h
  | _, _, .gone h, a, ha => CsI.nt h a ha
  | _, _, .cons hp hc h, a, ha => (List.mem_cons.mp ha).elim (fun e => ⟨_, e ▸ hp, hc.ntO⟩) fun ha => (List.mem_append.mp ha).elim (fun h => hc.nt a h) fun h' => CsI.nt h a h'
theorem SsI.one {s : Slot} {u : V} {as : List Addr} (h : SlI G H s u as) : SsI G H [s] [u] as := by
  have := SsI.cons h .nil
  rwa [List.append_nil] at this
theorem SsI.plain : ∀ {ss : List Slot} {vs : List V} {as : List Addr}, SsI G H ss vs as → (∀ s ∈ ss, s.plain = true) → as = []
  | _, _, _, .nil, _ => rfl
  | _, _, _, .cons h1 h2, h => by rw [h1.nil (h _ List.mem_cons_self), SsI.plain h2 fun s hs => h s (List.mem_cons_of_mem _ hs)]; rfl
theorem SsI.cons_inv {s : Slot} {u : V} {ss : List Slot} {vs : List V} {as : List Addr} (h : SsI G H (s :: ss) (u :: vs) as) : ∃ a1 a2, as = a1 ++ a2 ∧ SlI G H s u a1 ∧ SsI G H ss vs a2 := by
  cases h with
  | @cons _ _ a1 _ _ a2 h1 h2 => exact ⟨a1, a2, rfl, h1, h2⟩
theorem SsI.cons_nil {s : Slot} {u : V} {ss : List Slot} {vs : List V} (h : SsI G H (s :: ss) (u :: vs) []) : SlI G H s u [] ∧ SsI G H ss vs [] := by
  obtain ⟨a1, a2, e, h1, h2⟩ := h.cons_inv
  obtain ⟨rfl, rfl⟩ := List.append_eq_nil_iff.mp e.symm
  exact ⟨h1, h2⟩
theorem SsI.get : ∀ {ss : List Slot} {vs : List V} (i : Nat) {s : Slot}, SsI G H ss vs [] → ss[i]? = some s → ∃ u, vs[i]? = some u ∧ SlI G H s u []
  | [], _, _, _, _, h => by simp at h
  | _ :: _, [], _, _, h, _ => by cases h
  | _ :: _, v :: _, 0, s, h, e => by
    have e1 := Option.some.inj (show some _ = some s from e)
    subst e1
    exact ⟨v, rfl, h.cons_nil.1⟩
  | _ :: ss, v :: vs, i + 1, s, h, e => SsI.get (ss := ss) (vs := vs) i h.cons_nil.2 (show ss[i]? = some s from e)
theorem SsI.of_get : ∀ {ss : List Slot} {vs : List V}, ss.length = vs.length → (∀ (i : Nat) s u, ss[i]? = some s → vs[i]? = some u → SlI G H s u []) → SsI G H ss vs []
  | [], [], _, _ => .nil
  | [], _ :: _, e, _ => nomatch e
  | _ :: _, [], e, _ => nomatch e
  | s :: ss, v :: vs, e, h => .cons (as := []) (h 0 s v rfl rfl) (SsI.of_get (Nat.succ.inj e) fun i s u h1 h2 => h (i + 1) s u h1 h2)
theorem dqAll_ss {α : Type} [DecidableEq α] [Datum α] : ∀ {xs : List α} {vs : List V}, DqAll G vs (xs.map Datum.toD) → SsI G H (xs.map Slot.val) vs []
  | [], _, h => by cases h; exact .nil
  | x :: xs, _, h => by
    cases h with
    | cons h1 h2 => exact .cons (as := []) (.val h1) (dqAll_ss h2)
theorem ss_dqAll {α : Type} [DecidableEq α] [Datum α] : ∀ {xs : List α} {vs : List V} {as : List Addr}, SsI G H (xs.map Slot.val) vs as → DqAll G vs (xs.map Datum.toD)
  | [], _, _, h => by cases h; exact .nil
  | x :: xs, _, _, h => by
    cases h with
    | cons h1 h2 =>
      cases h1 with
      | val h1 => exact .cons h1 (ss_dqAll h2)
end
section
variable {B : Base} {S : Stt} {T : List Slot} {σ : St} {tv : List V} {H G : Hp} {as bs : List Addr} {x : Slot} {v : V}
theorem St0.sta (z : St0 B S T σ tv H G as bs) : Sta B S T σ tv H := ⟨G, as, bs, z⟩
theorem St0.pop (z : St0 B S (x :: T) σ (v :: tv) H G as bs) : ∃ a1 a2, as = a1 ++ a2 ∧ SlI G H x v a1 ∧ St0 B S T σ tv H G a2 bs := by
  obtain ⟨z1, z2, z3, z4, z5, z6, z7, z8, z9⟩ := z
  cases z1 with
  | @cons _ _ a1 _ _ a2 h1 h2 =>
    refine ⟨a1, a2, rfl, h1, h2, z2, z3, ?_, fun a ha => z5 a ?_, z6, z7, z8, z9⟩
    · rw [List.append_assoc] at z4
      exact (List.nodup_append.mp z4).2.1
    · rw [List.append_assoc]
      exact List.mem_append_right _ ha
theorem St0.fresh (z : St0 B S T σ tv H G as bs) {p : Addr} (hp : H p = none) : ∀ a ∈ as ++ bs, a ≠ p := fun a ha e => by
  subst e
  rcases List.mem_append.mp ha with h | h
  · obtain ⟨o, e⟩ := z.tmp.def a h; rw [hp] at e; cases e
  · obtain ⟨o, e⟩ := z.cel.def a h; rw [hp] at e; cases e
theorem ex_none {H H' : Hp} (e : Ex H H') {p : Addr} (h : H' p = none) : H p = none := by
  cases q : H p with
  | none => rfl
  | some o => rw [e p o q] at h; cases h
theorem ex_upd {H H' : Hp} (e : Ex H H') {p : Addr} {o : HO} (h : H p = none) : Ex H (upd H' p o) := fun a u ha => by rw [upd_ne (ne_of_none ha h)]; exact e a u ha
/-- the heap has one more thing, that nobody owns yet -/
theorem St0.grown (z : St0 B S T σ tv H G as bs) {p : Addr} {o : HO} (hp : H p = none) : St0 B S T σ tv (upd H p o) G as bs :=
  ⟨z.tmp.mono (Ex.refl G) fun a ha => upd_ne (z.fresh hp a (List.mem_append_left _ ha)), z.cel.mono (Ex.refl G) fun a ha => upd_ne (z.fresh hp a (List.mem_append_right _ ha)), z.slo, z.nod, z.fre, z.gro, z.new, ex_upd z.sub (ex_none z.sub hp), ex_upd z.frm (ex_none z.frm hp)⟩
/-- a new thing, owned -/
theorem St0.newO (z : St0 B S T σ tv H G as bs) {p : Addr} {o : HO} {c : Cel} (hp : H p = none) (hc : CeI G (upd H p o) c o []) : Sta B S (.own c :: T) σ (.ref p :: tv) (upd H p o) := by
  obtain ⟨z1, z2, z3, z4, z5, z6, z7, z8, z9⟩ := z.grown (o := o) hp
  refine ⟨G, (p :: []) ++ as, bs, .cons (.own upd_same hc) z1, z2, z3, List.nodup_cons.mpr ⟨fun h => z.fresh hp p h rfl, z4⟩, fun a ha => ?_, z6, z7, z8, z9⟩
  rcases List.mem_cons.mp ha with e | ha
  · subst e
    exact ⟨ex_none z.sub hp, ex_none z.frm hp⟩
  · exact z5 a ha
/-- a new thing, for good -/
theorem St0.newG (z : St0 B S T σ tv H G as bs) {p : Addr} {o : HO} (hp : H p = none) (hx : SlI (upd G p o) (upd H p o) x (.ref p) []) : Sta B S (x :: T) σ (.ref p :: tv) (upd H p o) := by
  have hg : G p = none := ex_none z.sub hp
  have eg : Ex G (upd G p o) := ex_upd (Ex.refl G) hg
  refine ⟨upd G p o, [] ++ as, bs, .cons hx (z.tmp.mono eg fun a ha => upd_ne (z.fresh hp a (List.mem_append_left _ ha))), z.cel.mono eg fun a ha => upd_ne (z.fresh hp a (List.mem_append_right _ ha)), z.slo.mono eg, z.nod, fun a ha => ?_, z.gro.trans eg, fun a u ha => ?_, fun a u ha => ?_, ex_upd z.frm (ex_none z.frm hp)⟩
  · rw [upd_ne (z.fresh hp a ha)]
    exact z.fre a ha
  · by_cases e : a = p
    · subst e
      exact .inr (.inl (ex_none z.frm hp))
    · rw [upd_ne e] at ha
      exact z.new a u ha
  · by_cases e : a = p
    · subst e
      rw [upd_same] at ha ⊢
      exact ha
    · rw [upd_ne e] at ha ⊢
      exact z.sub a u ha
end
/-! ### what is owned, for good -/
section
mutual
inductive FzS : Slot → PyData → Prop where
  | val {α : Type} [DecidableEq α] [Datum α] {x : α} : FzS (.val x) (Datum.toD x)
  | non : FzS (.v .non) .none
  | own {c : Cel} {d : PyData} : FzC c d → FzS (.own c) d
inductive FzC : Cel → PyData → Prop where
  | lst {ss : List Slot} {ds : List PyData} : FzA ss ds → FzC (.lst ss) (.list ds)
inductive FzA : List Slot → List PyData → Prop where
  | nil : FzA [] []
  | cons {s : Slot} {d : PyData} {ss : List Slot} {ds : List PyData} : FzS s d → FzA ss ds → FzA (s :: ss) (d :: ds)
end
theorem fz_map {α : Type} [DecidableEq α] [Datum α] : ∀ xs : List α, FzA (xs.map Slot.val) (xs.map Datum.toD)
  | [] => .nil
  | _ :: xs => .cons .val (fz_map xs)
theorem fz_val {α : Type} [DecidableEq α] [Datum α] (xs : List α) : FzC (.lst (xs.map Slot.val)) (Datum.toD xs) := .lst (fz_map xs)
variable {G G' H : Hp}
mutual
theorem FzS.dq : ∀ {s : Slot} {d : PyData} {u : V} {as : List Addr}, FzS s d → SlI G H s u as → Ex G G' → (∀ a ∈ as, G' a = H a) → Dq G' u d
  | _, _, _, _, @FzS.val α i1 i2 x, h, e, _ => by cases h with | val h => exact dq_mono e h
  | _, _, _, _, .non, .v, _, _ => .non
  | _, _, _, _, .own h, .own hp hc, e, f => FzC.dq h hc ((f _ List.mem_cons_self).trans hp) e fun a ha => f a (List.mem_cons_of_mem _ ha)
theorem FzC.dq : ∀ {c : Cel} {d : PyData} {p : Addr} {o : HO} {as : List Addr}, FzC c d → CeI G H c o as → G' p = some o → Ex G G' → (∀ a ∈ as, G' a = H a) → Dq G' (.ref p) d
  | _, _, _, _, _, .lst h, .lst hs, hp, e, f => .lst hp (FzA.dq h hs e f)
theorem FzA.dq : ∀ {ss : List Slot} {ds : List PyData} {vs : List V} {as : List Addr}, FzA ss ds → SsI G H ss vs as → Ex G G' → (∀ a ∈ as, G' a = H a) → DqAll G' vs ds
  | _, _, _, _, .nil, .nil, _, _ => .nil
  | _, _, _, _, .cons h1 h2, .cons s1 s2, e, f => .cons (FzS.dq h1 s1 e fun a ha => f a (List.mem_append_left _ ha)) (FzA.dq h2 s2 e fun a ha => f a (List.mem_append_right _ ha))
end
end
section
variable {B : Base} {S : Stt} {T : List Slot} {σ : St} {tv : List V} {H G : Hp} {as bs : List Addr} {x : Slot} {v : V}
/-- the addresses fs are said for good -/
theorem St0.froz (z : St0 B S T σ tv H G as bs) (fs : List Addr) (hf : ∀ a ∈ fs, G a = none ∧ B.F a = none ∧ ∃ o, H a = some o) (hn : ∀ a ∈ as ++ bs, a ∉ fs) : ∃ G', Ex G G' ∧ (∀ a ∈ fs, G' a = H a) ∧ St0 B S T σ tv H G' as bs := by
  refine ⟨fun a => if a ∈ fs then H a else G a, fun a o ha => ?_, fun a ha => if_pos ha, ?_⟩
  · have : a ∉ fs := fun h => by rw [(hf a h).1] at ha; cases ha
    show (if a ∈ fs then H a else G a) = some o
    rw [if_neg this]; exact ha
  · have eg : Ex G (fun a => if a ∈ fs then H a else G a) := fun a o ha => by
      have : a ∉ fs := fun h => by rw [(hf a h).1] at ha; cases ha
      show (if a ∈ fs then H a else G a) = some o
      rw [if_neg this]; exact ha
    refine ⟨z.tmp.mono eg fun _ _ => rfl, z.cel.mono eg fun _ _ => rfl, z.slo.mono eg, z.nod, fun a ha => ⟨?_, (z.fre a ha).2⟩, z.gro.trans eg, fun a o ha => ?_, fun a o ha => ?_, z.frm⟩
    · show (if a ∈ fs then H a else G a) = none
      rw [if_neg (hn a ha)]; exact (z.fre a ha).1
    · by_cases h : a ∈ fs
      · exact .inr (.inl (hf a h).2.1)
      · have ha' : (if a ∈ fs then H a else G a) = some o := ha
        rw [if_neg h] at ha'; exact z.new a o ha'
    · have ha' : (if a ∈ fs then H a else G a) = some o := ha
      by_cases h : a ∈ fs
      · rw [if_pos h] at ha'; exact ha'
      · rw [if_neg h] at ha'; exact z.sub a o ha'
/-- a temporary thing that is data, for good -/
theorem Sta.frz {d : PyData} (f : FzS x d) (h : Sta B S (x :: T) σ (v :: tv) H) {y : Slot} (hy : ∀ G, Dq G v d → SlI G H y v []) : Sta B S (y :: T) σ (v :: tv) H := by
  obtain ⟨G, as, bs, z⟩ := h
  obtain ⟨a1, a2, rfl, h1, z'⟩ := z.pop
  obtain ⟨G', e, g, z2⟩ := z'.froz a1 (fun a ha => ⟨(z.fre a (by simp [ha])).1, (z.fre a (by simp [ha])).2, h1.def a ha⟩) (fun a ha hb => by
    have nd := z.nod
    rw [List.append_assoc] at nd
    exact (List.nodup_append.mp nd).2.2 a hb a ha rfl)
  exact ⟨G', [] ++ a2, bs, .cons (hy G' (f.dq h1 e g)) z2.tmp, z2.cel, z2.slo, z2.nod, z2.fre, z2.gro, z2.new, z2.sub, z2.frm⟩
end
section
variable {X : Cx} {B : Base} {S S1 S2 S3 : Stt} {x y z : Slot} {a b e : Expr} {es : List Expr} {pos : Pos} {D : FE} {rest : List Stmt}
theorem je_frz {α : Type} [DecidableEq α] [Datum α] {t : α} (h : JE X B S e S1 x) (f : FzS x (Datum.toD t)) : JE X B S e S1 (.val t) := fun T tv σ H Q hs q => h _ _ _ _ _ hs fun v H' g => q v H' (g.frz f fun G d => .val d)
theorem je_frL {α : Type} [DecidableEq α] [Datum α] {xs : List α} (h : JE X B S e S1 (.own (.lst (xs.map Slot.val)))) : JE X B S e S1 (.val xs) := je_frz h (.own (fz_val xs))
/-- a named cell that is data, for good: the slot i and the cell k -/
theorem js_frz {α : Type} [DecidableEq α] [Datum α] {t : α} (i k : Nat) {p : Addr} {c : Cel} (hi : S.sl[i]? = some (.v (.ref p))) (hk : S.cs[k]? = some (p, c)) (f : FzC c (Datum.toD t)) (h : JS X B ⟨S.sl.set i (.val t), S.cs.set k (p, .gone)⟩ rest D) : JS X B S rest D := by
  refine js_imp (fun T tv σ H hs => ?_) h
  obtain ⟨G, as, bs, z⟩ := hs
  have hg : c ≠ .gone := by intro e; subst e; cases f
  obtain ⟨l, o, m, r, rfl, hp, hc, reb⟩ := z.cel.at k hk hg
  have z' : St0 B ⟨S.sl, S.cs.set k (p, .gone)⟩ T σ tv H G as (l ++ r) := by
    have hl : (as ++ (l ++ r)).Sublist (as ++ (l ++ (p :: m) ++ r)) := (List.Sublist.refl as).append (by
      rw [List.append_assoc]
      exact (List.Sublist.refl l).append (List.sublist_append_right _ _))
    exact ⟨z.tmp, (reb (Ex.refl G) fun _ _ => rfl).2 p, z.slo, hl.nodup z.nod, fun a ha => z.fre a (hl.mem ha), z.gro, z.new, z.sub, z.frm⟩
  have mem : ∀ a ∈ p :: m, a ∈ as ++ (l ++ (p :: m) ++ r) := fun a ha => by
    rw [List.append_assoc l]
    exact List.mem_append_right _ (List.mem_append_right _ (List.mem_append_left _ ha))
  obtain ⟨G', e, g, z2⟩ := z'.froz (p :: m) (fun a ha => ⟨(z.fre a (mem a ha)).1, (z.fre a (mem a ha)).2, (List.mem_cons.mp ha).elim (fun e => ⟨_, e ▸ hp⟩) fun h => hc.def a h⟩) (fun a ha hb => by
    have nd := z.nod
    have pm : (as ++ (l ++ (p :: m) ++ r)).Perm ((as ++ (l ++ r)) ++ (p :: m)) := by
      have e1 : (l ++ (p :: m) ++ r).Perm ((l ++ r) ++ (p :: m)) := by
        rw [List.append_assoc, List.append_assoc]
        exact List.Perm.append_left l List.perm_append_comm
      have e2 := List.Perm.append_left as e1
      rwa [← List.append_assoc as (l ++ r)] at e2
    exact (List.nodup_append.mp (pm.nodup_iff.mp nd)).2.2 a ha a hb rfl)
  have d := f.dq hc ((g p List.mem_cons_self).trans hp) e fun a ha => g a (List.mem_cons_of_mem _ ha)
  refine ⟨G', as, l ++ r, z2.tmp, z2.cel, ⟨by rw [List.length_set]; exact z2.slo.1, fun j s hj => ?_⟩, z2.nod, z2.fre, z2.gro, z2.new, z2.sub, z2.frm⟩
  by_cases ej : i = j
  · subst ej
    have hlt := (List.getElem?_eq_some_iff.mp hi).1
    rw [List.getElem?_set_self hlt] at hj
    cases hj
    obtain ⟨o2, h1, h2⟩ := z.slo.2 i _ hi
    exact ⟨o2, h1, .ref p, h2, d⟩
  · rw [List.getElem?_set_ne ej] at hj
    exact z2.slo.2 j s hj
/-! ### displays -/
def SlD (x : Slot) (d : PyData) : Prop := ∀ {G H u as}, SlI G H x u as → Dq G u d
theorem sld_val {α : Type} [DecidableEq α] [Datum α] {t : α} : SlD (.val t) (Datum.toD t) := fun h => by cases h with | val h => exact h
inductive SlDs : List Slot → List PyData → Prop where
  | nil : SlDs [] []
  | cons {s : Slot} {d : PyData} {ss : List Slot} {ds : List PyData} : SlD s d → SlDs ss ds → SlDs (s :: ss) (d :: ds)
theorem SlDs.all : ∀ {ss : List Slot} {ds : List PyData} {G H : Hp} {vs : List V} {as : List Addr}, SlDs ss ds → SsI G H ss vs as → DqAll G vs ds
  | _, _, _, _, _, _, .nil, .nil => .nil
  | _, _, _, _, _, _, .cons h1 h2, .cons s1 s2 => .cons (h1 s1) (h2.all s2)
theorem St0.split {B : Base} {S : Stt} {xs T : List Slot} {σ : St} {vs tv : List V} {H G : Hp} {as bs : List Addr} (z : St0 B S (xs ++ T) σ (vs ++ tv) H G as bs) (hl : xs.length = vs.length) : ∃ a1 a2, as = a1 ++ a2 ∧ SsI G H xs vs a1 ∧ St0 B S T σ tv H G a2 bs := by
  obtain ⟨z1, z2, z3, z4, z5, z6, z7, z8, z9⟩ := z
  obtain ⟨a1, a2, rfl, h1, h2⟩ := SsI.split hl z1
  refine ⟨a1, a2, rfl, h1, h2, z2, z3, ?_, fun a ha => z5 a ?_, z6, z7, z8, z9⟩
  · rw [List.append_assoc] at z4
    exact (List.nodup_append.mp z4).2.1
  · rw [List.append_assoc]
    exact List.mem_append_right _ ha
/-- a written tuple -/
theorem je_tup {α : Type} [DecidableEq α] [Datum α] {t : α} {xs : List Slot} {ds : List PyData} {k : Nat} (ha : JA X B S es S1 xs) (hd : SlDs xs ds) (ht : Datum.toD t = .tuple ds) (hl : xs.length ≤ 1000) : JE X B S (.Tuple es k pos) S1 (.val t) := fun T tv σ H Q hs q =>
  pe1 (pe_tup pa0) (ha _ _ _ _ _ hs fun vs H1 he h1 => ⟨Nat.le_trans (Nat.le_of_eq he) (Nat.le_trans hl (by decide)), fun p hp => by
    obtain ⟨G, as, bs, z⟩ := h1
    obtain ⟨a1, a2, rfl, g1, z'⟩ := z.split he.symm
    refine q _ _ (z'.newG hp (.val ?_))
    rw [ht]
    exact .tup upd_same (dqAll_mono (ex_upd (Ex.refl G) (ex_none z'.sub hp)) (hd.all g1))⟩)
/-- a written list -/
theorem je_lst {xs : List Slot} (ha : JA X B S es S1 xs) (hl : xs.length ≤ 1000) : JE X B S (.List es pos) S1 (.own (.lst xs)) := fun T tv σ H Q hs q =>
  pe1 (pe_lst pa0) (ha _ _ _ _ _ hs fun vs H1 he h1 => ⟨Nat.le_trans (Nat.le_of_eq he) (Nat.le_trans hl (by decide)), fun p hp => by
    obtain ⟨G, as, bs, z⟩ := h1
    obtain ⟨z1, z2, z3, z4, z5, z6, z7, z8, z9⟩ := z.grown (o := .lst vs) hp
    obtain ⟨a1, a2, rfl, g1, g2⟩ := SsI.split he.symm z1
    refine q _ _ ⟨G, (p :: a1) ++ a2, bs, .cons (.own upd_same (.lst g1)) g2, z2, z3, List.nodup_cons.mpr ⟨fun h => z.fresh hp p h rfl, z4⟩, fun a ha => ?_, z6, z7, z8, z9⟩
    rcases List.mem_cons.mp ha with e | ha
    · subst e
      exact ⟨ex_none z.sub hp, ex_none z.frm hp⟩
    · exact z5 a ha⟩)
end
end J
namespace J
universe u w
open PySem L2
open PySem.W (Datum)
/-! ### the mirror's lists -/
def gx {α : Type u} (xs : List α) (i : Int) : Option α := if 0 ≤ i then xs[i.toNat]? else if -(xs.length : Int) ≤ i then xs[(i + xs.length).toNat]? else none
/-- the place that an index means -/
def ixp (n : Nat) (i : Int) : Option Nat := if 0 ≤ i then (if i < n then some i.toNat else none) else if -(n : Int) ≤ i then some (i + n).toNat else none
def sx (n d : Nat) : Option Int → Nat
  | none => d
  | some v => if v < 0 then (v + (n : Int)).toNat else min v.toNat n
def slc {α : Type u} (xs : List α) (lo hi : Option Int) : List α := (xs.drop (sx xs.length 0 lo)).take (sx xs.length xs.length hi - sx xs.length 0 lo)
def psh {α : Type u} (xs : List α) (x : α) : Option (List α) := if xs.length < 16777216 then some (xs ++ [x]) else none
theorem sx_eq (n d : Nat) (o : Option Int) : sx n d o = HT.sIx n d o := by cases o <;> rfl
theorem atI_gx {α : Type} (xs : List α) (i : Int) : atI xs i = gx xs i := by
  unfold atI ixN gx
  by_cases h : 0 ≤ i
  · rw [if_pos h, if_pos h]
    by_cases h2 : i < xs.length
    · rw [if_pos h2]; rfl
    · rw [if_neg h2, List.getElem?_eq_none (by omega)]; rfl
  · rw [if_neg h, if_neg h]
    by_cases h2 : -(xs.length : Int) ≤ i
    · rw [if_pos h2, if_pos h2]; rfl
    · rw [if_neg h2, if_neg h2]; rfl
theorem gx_ixp {α : Type u} (xs : List α) (i : Int) : gx xs i = (ixp xs.length i).bind fun j => xs[j]? := by
  unfold ixp gx
  by_cases h : 0 ≤ i
  · rw [if_pos h, if_pos h]
    by_cases h2 : i < xs.length
    · rw [if_pos h2]; rfl
    · rw [if_neg h2, List.getElem?_eq_none (by omega)]; rfl
  · rw [if_neg h, if_neg h]
    by_cases h2 : -(xs.length : Int) ≤ i
    · rw [if_pos h2, if_pos h2]; rfl
    · rw [if_neg h2, if_neg h2]; rfl
theorem gx_map {α : Type u} {β : Type w} (f : α → β) (xs : List α) (i : Int) : gx (xs.map f) i = (gx xs i).map f := by
  unfold gx
  rw [List.length_map]
  by_cases h : 0 ≤ i
  · rw [if_pos h, if_pos h, List.getElem?_map]
  · rw [if_neg h, if_neg h]
    by_cases h2 : -(xs.length : Int) ≤ i
    · rw [if_pos h2, if_pos h2, List.getElem?_map]
    · rw [if_neg h2, if_neg h2]; rfl
theorem slc_map {α : Type u} {β : Type w} (f : α → β) (xs : List α) (lo hi : Option Int) : slc (xs.map f) lo hi = (slc xs lo hi).map f := by
  unfold slc
  rw [List.length_map, List.map_take, List.map_drop]
theorem psh_some {α : Type u} {xs : List α} {x : α} {ys : List α} (h : psh xs x = some ys) : xs.length < 16777216 ∧ ys = xs ++ [x] := by
  unfold psh at h
  split at h
  · exact ⟨by assumption, (Option.some.inj h).symm⟩
  · cases h
/-! ### lists that are read -/
section
variable {G H : Hp}
def Lv (K : PySem.W.Frag) (B : Base) (S : Stt) (x : Slot) (ss : List Slot) : Prop := ∀ {T σ v tv H G as bs}, St0 B S (x :: T) σ (v :: tv) H G as bs → ∃ a vs, v = .ref a ∧ SqL K H a vs ∧ SsI G H ss vs []
variable {K : PySem.W.Frag} {B : Base} {S : Stt}
theorem lv_val {α : Type} [DecidableEq α] [Datum α] {xs : List α} : Lv K B S (.val xs) (xs.map Slot.val) := fun z => by
  obtain ⟨a1, a2, _, h, z'⟩ := z.pop
  cases h with
  | val h =>
    generalize hd : Datum.toD xs = d at h
    have e : d = .list (xs.map Datum.toD) := hd.symm
    subst e
    cases h with
    | lst hp ha => exact ⟨_, _, rfl, .of (z.sub _ _ hp), dqAll_ss ha⟩
theorem lv_own {ss : List Slot} (hp : ∀ s ∈ ss, s.plain = true) : Lv K B S (.own (.lst ss)) ss := fun z => by
  obtain ⟨a1, a2, _, h, z'⟩ := z.pop
  cases h with
  | own hp' hc =>
    cases hc with
    | lst hs => exact ⟨_, _, rfl, .of hp', hs.plain hp ▸ hs⟩
theorem plain_map {α : Type} [DecidableEq α] [Datum α] (xs : List α) : ∀ s ∈ xs.map Slot.val, s.plain = true := fun s hs => by
  obtain ⟨x, _, rfl⟩ := List.mem_map.mp hs
  rfl
theorem lv_own' {α : Type} [DecidableEq α] [Datum α] {xs : List α} : Lv K B S (.own (.lst (xs.map Slot.val))) (xs.map Slot.val) := lv_own (plain_map xs)
theorem lv_cell (k : Nat) {p : Addr} {ss : List Slot} (hk : S.cs[k]? = some (p, .lst ss)) (hp : ∀ s ∈ ss, s.plain = true) : Lv K B S (.v (.ref p)) ss := fun z => by
  obtain ⟨a1, a2, _, h, z'⟩ := z.pop
  cases h with
  | v =>
    obtain ⟨l, o, m, r, _, hp', hc, _⟩ := z.cel.at k hk (by intro e; cases e)
    cases hc with
    | lst hs => exact ⟨_, _, rfl, .of hp', hs.plain hp ▸ hs⟩
theorem lv_cell' {α : Type} [DecidableEq α] [Datum α] (k : Nat) {p : Addr} {xs : List α} (hk : S.cs[k]? = some (p, .lst (xs.map Slot.val))) : Lv K B S (.v (.ref p)) (xs.map Slot.val) := lv_cell k hk (plain_map xs)
/-- the script, and what else is known ahead -/
theorem lv_pre {p : Addr} {ns : List Int} (h : SqL K B.G p (ns.map V.int)) : Lv K B S (.v (.ref p)) (ns.map Slot.val) := fun z => by
  obtain ⟨a1, a2, _, h', z'⟩ := z.pop
  cases h' with
  | v =>
    refine ⟨_, _, rfl, h.imp (fun r => r.imp (fun q => z.sub _ _ (z.gro _ _ q)) fun ⟨o, q⟩ => ⟨o, z.sub _ _ (z.gro _ _ q)⟩) id, ?_⟩
    exact SsI.of_get (by simp) fun i s u h1 h2 => by
      rw [List.getElem?_map] at h1 h2
      cases q : ns[i]? with
      | none => rw [q] at h1; cases h1
      | some n =>
        rw [q] at h1 h2
        cases h1
        cases h2
        exact .val (.int n)
end
section
variable {X : Cx} {B : Base} {S S1 S2 S3 : Stt} {x y z : Slot} {a b e : Expr} {es : List Expr} {pos : Pos} {D : FE} {rest : List Stmt} {ss : List Slot}
/-! ### built-ins by name -/
def OC (B : Base) (r : List V → Hp → VK → Prop) (S : Stt) (xs : List Slot) (S' : Stt) (z : Slot) : Prop := ∀ T tv σ vs H Q, vs.length = xs.length → Sta B S (xs ++ T) σ (vs ++ tv) H → (∀ w H', Sta B S' (z :: T) σ (w :: tv) H' → Q w H') → r vs H Q
theorem je_callB {r : List V → Hp → VK → Prop} {id : String} {n : Str} {p : Pos} {xs : List Slot} (hc : CallR X (.builtin id) r) (hm : X.mg n = none) (hv : bootBuiltins n = some (.builtin id)) (ha : JA X B S (e :: es) S1 xs) (hr : OC B r S1 xs S2 z) (hg : Gl X n := by rfl) (hn : n ≠ "__name__" := by decide) (hdb : (n == ("__debug__" : Str)) = false := by decide)
    (he : starEach (e :: es) X.env = (false, eval e X.env) :: starEach es X.env := by rfl) (hpl : (backTo pos (starEach es X.env)).any (·.1) = false := by rfl) : JE X B S (.Call (.Name n p) (e :: es) [] pos) S2 z := fun T tv σ H Q hs q =>
  pe1 (pe_callB hc hg hm hv pa0 hn hdb he hpl) (ha _ _ _ _ _ hs fun vs H1 hl h1 => hr _ _ _ _ _ _ hl h1 q)
theorem je_callT {r : List V → Hp → VK → Prop} {id : String} {n : Str} {p : Pos} {xs : List Slot} (hc : CallR X (.type id) r) (hm : X.mg n = none) (hv : bootBuiltins n = some (.type id)) (ha : JA X B S (e :: es) S1 xs) (hr : OC B r S1 xs S2 z) (hg : Gl X n := by rfl) (hn : n ≠ "__name__" := by decide) (hdb : (n == ("__debug__" : Str)) = false := by decide)
    (he : starEach (e :: es) X.env = (false, eval e X.env) :: starEach es X.env := by rfl) (hpl : (backTo pos (starEach es X.env)).any (·.1) = false := by rfl) : JE X B S (.Call (.Name n p) (e :: es) [] pos) S2 z := fun T tv σ H Q hs q =>
  pe1 (pe_callTy hc hg hm hv pa0 hn hdb he hpl) (ha _ _ _ _ _ hs fun vs H1 hl h1 => hr _ _ _ _ _ _ hl h1 q)
theorem oc1 {r : List V → Hp → VK → Prop} (h : ∀ T tv σ v H Q, Sta B S (x :: T) σ (v :: tv) H → (∀ w H', Sta B S2 (z :: T) σ (w :: tv) H' → Q w H') → r [v] H Q) : OC B r S [x] S2 z := fun T tv σ vs H Q hl hs q => match vs, hl with
  | [v], _ => h T tv σ v H Q hs q
theorem oc2 {r : List V → Hp → VK → Prop} (h : ∀ T tv σ v u H Q, Sta B S (x :: y :: T) σ (v :: u :: tv) H → (∀ w H', Sta B S2 (z :: T) σ (w :: tv) H' → Q w H') → r [v, u] H Q) : OC B r S [x, y] S2 z := fun T tv σ vs H Q hl hs q => match vs, hl with
  | [v, u], _ => h T tv σ v u H Q hs q
theorem je_len {n : Str} {p : Pos} {α : Type} [DecidableEq α] [Datum α] {xs : List α} (hm : X.mg "len" = none) (ha : JE X B S e S1 x) (hl : Lv X.K B S1 x (xs.map Slot.val)) (hg : Gl X "len" := by rfl) (hst : starEach [e] X.env = (false, eval e X.env) :: starEach [] X.env := by rfl) : JE X B S (.Call (.Name "len" p) [e] [] pos) S1 (.val (xs.length : Int)) :=
  je_callB call_len_seq hm boot_len (ja_cons ha ja_nil hst) (oc1 fun T tv σ v H Q hs q => by
    obtain ⟨G, as, bs, z⟩ := id hs
    obtain ⟨a, vs, rfl, hr, hss⟩ := hl z
    refine ⟨a, vs, rfl, .inl hr, ?_⟩
    have := hss.len
    rw [List.length_map] at this
    rw [← this]
    exact q _ _ (hs.drop.push fun _ _ => sl_int _)) hg (by decide) (by decide) hst
theorem je_abs {p : Pos} {i : Int} (hm : X.mg "abs" = none) (ha : JE X B S e S1 (.val i)) (hg : Gl X "abs" := by rfl) (hst : starEach [e] X.env = (false, eval e X.env) :: starEach [] X.env := by rfl) : JE X B S (.Call (.Name "abs" p) [e] [] pos) S1 (.val (if i < 0 then -i else i)) :=
  je_callB call_abs hm PyProof.Rows.boot_abs (ja_cons ha ja_nil hst) (oc1 fun T tv σ v H Q hs q => by
    have e := hs.int
    subst e
    exact ⟨i, rfl, q _ _ (hs.drop.push fun _ _ => sl_int _)⟩) hg (by decide) (by decide) hst
theorem je_min2 {p : Pos} {i j : Int} (hm : X.mg "min" = none) (ha : JE X B S a S1 (.val i)) (hb : JE X B S1 b S2 (.val j)) (hc : X.calm = true := by rfl) (hg : Gl X "min" := by rfl) (hst : starEach [a, b] X.env = (false, eval a X.env) :: starEach [b] X.env := by rfl) (hst2 : starEach [b] X.env = (false, eval b X.env) :: starEach [] X.env := by rfl) (hpl : (backTo pos (starEach [b] X.env)).any (·.1) = false := by rfl) : JE X B S (.Call (.Name "min" p) [a, b] [] pos) S2 (.val (if j < i then j else i)) :=
  je_callB (call_min2 hc) hm PyProof.Rows.boot_min (ja_cons ha (ja_cons hb ja_nil hst2) hst) (oc2 fun T tv σ v u H Q hs q => by
    have e := hs.int
    have e2 := hs.drop.int
    subst e e2
    exact ⟨i, j, rfl, q _ _ (hs.drop.drop.push fun _ _ => sl_int _)⟩) hg (by decide) (by decide) hst hpl
theorem je_max2 {p : Pos} {i j : Int} (hm : X.mg "max" = none) (ha : JE X B S a S1 (.val i)) (hb : JE X B S1 b S2 (.val j)) (hc : X.calm = true := by rfl) (hg : Gl X "max" := by rfl) (hst : starEach [a, b] X.env = (false, eval a X.env) :: starEach [b] X.env := by rfl) (hst2 : starEach [b] X.env = (false, eval b X.env) :: starEach [] X.env := by rfl) (hpl : (backTo pos (starEach [b] X.env)).any (·.1) = false := by rfl) : JE X B S (.Call (.Name "max" p) [a, b] [] pos) S2 (.val (if j > i then j else i)) :=
  je_callB (call_max2 hc) hm PyProof.Rows.boot_max (ja_cons ha (ja_cons hb ja_nil hst2) hst) (oc2 fun T tv σ v u H Q hs q => by
    have e := hs.int
    have e2 := hs.drop.int
    subst e e2
    exact ⟨i, j, rfl, q _ _ (hs.drop.drop.push fun _ _ => sl_int _)⟩) hg (by decide) (by decide) hst hpl
/-- list(xs): a new list -/
theorem je_list {p : Pos} (hm : X.mg "list" = none) (ha : JE X B S e S1 x) (hl : Lv X.K B S1 x ss) (hg : Gl X "list" := by rfl) (hst : starEach [e] X.env = (false, eval e X.env) :: starEach [] X.env := by rfl) : JE X B S (.Call (.Name "list" p) [e] [] pos) S1 (.own (.lst ss)) :=
  je_callT call_list_of hm (by decide +kernel) (ja_cons ha ja_nil hst) (oc1 fun T tv σ v H Q hs q => by
    obtain ⟨G, as, bs, z⟩ := hs
    obtain ⟨a, vs, rfl, hr, hss⟩ := hl z
    obtain ⟨a1, a2, rfl, _, z'⟩ := z.pop
    exact ⟨a, vs, rfl, .inl hr, fun l hn => q _ _ (z'.newO hn (.lst (hss.mono (Ex.refl G) fun _ h => nomatch h)))⟩) hg (by decide) (by decide) hst
theorem je_sum {p : Pos} {xs : List Int} (hm : X.mg "sum" = none) (ha : JE X B S e S1 x) (hl : Lv X.K B S1 x (xs.map Slot.val)) (hc : X.calm = true := by rfl) (hg : Gl X "sum" := by rfl) (hst : starEach [e] X.env = (false, eval e X.env) :: starEach [] X.env := by rfl) : JE X B S (.Call (.Name "sum" p) [e] [] pos) S1 (.val xs.sum) :=
  je_callB (cr_sum hc) hm PyProof.Rows.boot_sum (ja_cons ha ja_nil hst) (oc1 fun T tv σ v H Q hs q => by
    obtain ⟨G, as, bs, z⟩ := id hs
    obtain ⟨a, vs, rfl, hr, hss⟩ := hl z
    have e : vs = xs.map V.int := by
      clear hl hs z hr q
      revert hss
      induction xs generalizing vs with
      | nil => intro hss; cases hss; rfl
      | cons n ns ih =>
        intro hss
        cases vs with
        | nil => cases hss
        | cons v vs =>
          obtain ⟨h1, h2⟩ := hss.cons_nil
          rw [ih vs h2]
          cases h1 with
          | val h => cases (show Dq G v (.int n) from h); rfl
    subst e
    exact ⟨a, xs, rfl, hr, q _ _ (hs.drop.push fun _ _ => sl_int _)⟩) hg (by decide) (by decide) hst
/-! ### items, slices -/
theorem je_ix {s : Slot} {i : Int} (ha : JE X B S a S1 x) (hb : JE X B S1 b S2 (.val i)) (hl : Lv X.K B S2 x ss) (hi : gx ss i = some s) (hs : PlainIx b := by exact fun _ _ => rfl) : JE X B S (.Subscript a b pos) S2 s := fun T tv σ H Q h q =>
  pe1 (pe_ix ix_list pe0 pe0 hs) (ha _ _ _ _ _ h fun v H1 h1 => hb _ _ _ _ _ h1 fun u H2 h2 => by
    have e := h2.int
    subst e
    have h3 := h2.drop
    obtain ⟨G, as, bs, z⟩ := id h3
    obtain ⟨p, vs, rfl, hr, hss⟩ := hl z
    obtain ⟨a1, a2, rfl, _, z'⟩ := z.pop
    rw [gx_ixp] at hi
    cases hj : ixp ss.length i with
    | none => rw [hj] at hi; cases hi
    | some j =>
      rw [hj] at hi
      obtain ⟨w, hw, sw⟩ := hss.get j hi
      refine ⟨p, vs, i, w, rfl, rfl, hr, ?_, q w H2 ⟨G, [] ++ a2, bs, .cons sw z'.tmp, z'.cel, z'.slo, z'.nod, z'.fre, z'.gro, z'.new, z'.sub, z'.frm⟩⟩
      rw [atI_gx, gx_ixp, ← hss.len, hj]
      exact hw)
theorem je_ixv {α : Type} [DecidableEq α] [Datum α] {xs : List α} {t : α} {i : Int} (ha : JE X B S a S1 x) (hb : JE X B S1 b S2 (.val i)) (hl : Lv X.K B S2 x (xs.map Slot.val)) (hi : gx xs i = some t) (hs : PlainIx b := by exact fun _ _ => rfl) : JE X B S (.Subscript a b pos) S2 (.val t) :=
  je_ix ha hb hl (by rw [gx_map, hi]; rfl) hs
/-- a slice's part -/
def JO (X : Cx) (B : Base) (S : Stt) (e : Option Expr) (S' : Stt) (o : Option Int) : Prop := ∀ T tv σ H (Q : Option Int → Hp → Prop), Sta B S T σ tv H → (∀ H', Sta B S' T σ tv H' → Q o H') → ∃ t, PO X e t ∧ t σ H Q
def toOf (X : Cx) (e : Option Expr) : TO := fun σ H Q => ∃ t, PO X e t ∧ t σ H Q
theorem po0 {o : Option Expr} : PO X o (toOf X o) := ⟨fun pins s σ H Q I ⟨_, hp, h⟩ => hp.run pins s σ H Q I h⟩
theorem jo_none : JO X B S none S none := fun T tv σ H Q hs q => ⟨_, po_none, q H hs⟩
theorem jo_some {i : Int} (h : JE X B S e S1 (.val i)) : JO X B S (some e) S1 (some i) := fun T tv σ H Q hs q => ⟨_, po_some pe0, h _ _ _ _ _ hs fun v H' g => by
  have e := g.int
  subst e
  exact ⟨i, rfl, q _ g.drop⟩⟩
theorem cutV_slc (vs : List V) (lo hi : Option Int) : cutV vs lo hi = slc vs lo hi := by unfold cutV slc; rw [sx_eq, sx_eq]
theorem slc_get {α : Type u} {β : Type w} (f : α → β → Prop) {xs : List α} {ys : List β} (lo hi : Option Int) (hl : xs.length = ys.length) (h : ∀ (i : Nat) s u, xs[i]? = some s → ys[i]? = some u → f s u) : ∀ (i : Nat) s u, (slc xs lo hi)[i]? = some s → (slc ys lo hi)[i]? = some u → f s u := fun i s u h1 h2 => by
  unfold slc at h1 h2
  rw [hl] at h1
  rw [List.getElem?_take] at h1 h2
  split at h1
  · rw [if_pos (by assumption)] at h2
    rw [List.getElem?_drop] at h1 h2
    exact h _ _ _ h1 h2
  · cases h1
theorem slc_len {α : Type u} {β : Type w} {xs : List α} {ys : List β} (lo hi : Option Int) (hl : xs.length = ys.length) : (slc xs lo hi).length = (slc ys lo hi).length := by
  unfold slc
  rw [List.length_take, List.length_take, List.length_drop, List.length_drop, hl]
theorem je_slc {lo hi : Option Expr} {l h : Option Int} {p2 : Pos} (ha : JE X B S a S1 x) (hlo : JO X B S1 lo S2 l) (hhi : JO X B S2 hi S3 h) (hl : Lv X.K B S3 x ss) : JE X B S (.Subscript a (.Slice lo hi none p2) pos) S3 (.own (.lst (slc ss l h))) := fun T tv σ H Q g q =>
  pe1 (pe_slice sl_list pe0 po0 po0) (ha _ _ _ _ _ g fun v H1 h1 => hlo _ _ _ _ _ h1 fun H2 h2 => hhi _ _ _ _ _ h2 fun H3 h3 => by
    obtain ⟨G, as, bs, z⟩ := h3
    obtain ⟨p, vs, rfl, hr, hss⟩ := hl z
    obtain ⟨a1, a2, rfl, _, z'⟩ := z.pop
    refine ⟨p, vs, rfl, hr, fun q' hq => ?_⟩
    refine q _ _ (z'.newO hq ?_)
    rw [cutV_slc]
    have cut : SsI G H3 (slc ss l h) (slc vs l h) [] := SsI.of_get (slc_len l h hss.len) (slc_get (fun s u => SlI G H3 s u []) l h hss.len fun i s u h1 h2 => by
      obtain ⟨u', e1, e2⟩ := hss.get i h1
      rw [h2] at e1
      cases e1
      exact e2)
    exact .lst (cut.mono (Ex.refl G) fun _ h => nomatch h))
theorem je_slcv {α : Type} [DecidableEq α] [Datum α] {xs : List α} {lo hi : Option Expr} {l h : Option Int} {p2 : Pos} (ha : JE X B S a S1 x) (hlo : JO X B S1 lo S2 l) (hhi : JO X B S2 hi S3 h) (hl : Lv X.K B S3 x (xs.map Slot.val)) : JE X B S (.Subscript a (.Slice lo hi none p2) pos) S3 (.own (.lst ((slc xs l h).map Slot.val))) :=
  slc_map Slot.val xs l h ▸ je_slc ha hlo hhi hl
end
end J
namespace J
universe u w
open PySem L2
open PySem.W (Datum)
section
variable {B : Base} {S : Stt} {T : List Slot} {σ : St} {tv : List V} {H G : Hp} {as bs : List Addr} {x : Slot} {v : V}
/-- the thing of the k-th cell, and what may be written in its place: less, or as much, owned -/
theorem St0.cellW (z : St0 B S T σ tv H G as bs) {k : Nat} {p : Addr} {c : Cel} (hk : S.cs[k]? = some (p, c)) (hg : c ≠ .gone) :
    ∃ o m, H p = some o ∧ CeI G H c o m ∧ G p = none ∧ (∀ a ∈ m, a ≠ p) ∧ (∀ a ∈ as, a ≠ p) ∧ ∀ {c' : Cel} {o' : HO} {m' : List Addr}, CeI G (upd H p o') c' o' m' → m'.Sublist m → ∃ bs', St0 B ⟨S.sl, S.cs.set k (p, c')⟩ T σ tv (upd H p o') G as bs' := by
  obtain ⟨l, o, m, r, rfl, hp, hc, reb⟩ := z.cel.at k hk hg
  have nd := z.nod
  have pm : (as ++ (l ++ (p :: m) ++ r)).Perm (p :: (m ++ ((as ++ l) ++ r))) := by
    have e1 : (l ++ (p :: m) ++ r).Perm ((p :: m) ++ (l ++ r)) := by
      rw [List.append_assoc]
      exact (List.perm_append_comm (l₁ := l)).trans (by rw [List.append_assoc]; exact List.Perm.append_left _ List.perm_append_comm)
    have e2 : (as ++ ((p :: m) ++ (l ++ r))).Perm ((p :: m) ++ (as ++ (l ++ r))) := by
      rw [← List.append_assoc, ← List.append_assoc (p :: m)]
      exact List.Perm.append_right _ List.perm_append_comm
    have e3 := (List.Perm.append_left as e1).trans e2
    rw [← List.append_assoc as l r] at e3
    exact e3
  have nd2 := pm.nodup_iff.mp nd
  have nd3 := List.nodup_cons.mp nd2
  have hpm : ∀ a ∈ m, a ≠ p := fun a ha e => nd3.1 (by rw [← e]; exact List.mem_append_left _ ha)
  have hpa : ∀ a ∈ as, a ≠ p := fun a ha e => nd3.1 (by rw [← e]; exact List.mem_append_right _ (List.mem_append_left _ (List.mem_append_left _ ha)))
  have hpl : ∀ a ∈ l ++ r, a ≠ p := fun a ha e => nd3.1 (by
    rw [← e]
    rcases List.mem_append.mp ha with h | h
    · exact List.mem_append_right _ (List.mem_append_left _ (List.mem_append_right _ h))
    · exact List.mem_append_right _ (List.mem_append_right _ h))
  have mp : p ∈ as ++ (l ++ (p :: m) ++ r) := pm.mem_iff.mpr List.mem_cons_self
  refine ⟨o, m, hp, hc, (z.fre p mp).1, hpm, hpa, fun {c' o' m'} hc' hs => ⟨l ++ (p :: m') ++ r, ?_⟩⟩
  have sub : (as ++ (l ++ (p :: m') ++ r)).Sublist (as ++ (l ++ (p :: m) ++ r)) := (List.Sublist.refl as).append (((List.Sublist.refl l).append (hs.cons_cons p)).append (List.Sublist.refl r))
  exact ⟨z.tmp.mono (Ex.refl G) fun a ha => upd_ne (hpa a ha), (reb (Ex.refl G) fun a ha => upd_ne (hpl a ha)).1 upd_same hc', z.slo, sub.nodup nd, fun a ha => z.fre a (sub.mem ha), z.gro, z.new,
    fun a u ha => by rw [upd_ne (by intro e; subst e; rw [(z.fre a mp).1] at ha; cases ha)]; exact z.sub a u ha, fun a u ha => by rw [upd_ne (by intro e; subst e; rw [(z.fre a mp).2] at ha; cases ha)]; exact z.frm a u ha⟩
theorem St0.push (z : St0 B S T σ tv H G as bs) (h : SlI G H x v []) : Sta B S (x :: T) σ (v :: tv) H := ⟨G, [] ++ as, bs, .cons h z.tmp, z.cel, z.slo, z.nod, z.fre, z.gro, z.new, z.sub, z.frm⟩
theorem SlI.any' {G H H' : Hp} (h : SlI G H x v []) : SlI G H' x v [] := h.mono (Ex.refl G) fun _ h => nomatch h
theorem SsI.any' {G H H' : Hp} {ss : List Slot} {vs : List V} (h : SsI G H ss vs []) : SsI G H' ss vs [] := h.mono (Ex.refl G) fun _ h => nomatch h
end
section
variable {X : Cx} {B : Base} {S S1 S2 S3 : Stt} {x y z : Slot} {a b e o : Expr} {es : List Expr} {pos apos : Pos} {D : FE} {rest : List Stmt} {ss : List Slot} {p : Addr}
/-! ### a method of a list that has a name -/
/-- with arguments: the object, then the arguments, then what the method asks -/
theorem je_bm {id : String} {r : V → List V → Hp → VK → Prop} {name : Str} {xs : List Slot} {ss0 : List Slot} (k : Nat) (slot : PySem.Slot "list" name id) (hty : typeOf (.builtin id) = pure (.type "method_descriptor")) (hm : MtR X id r) (ho : JE X B S o S1 (.v (.ref p))) (hk : S1.cs[k]? = some (p, .lst ss0)) (ha : JA X B S1 (e :: es) S2 xs)
    (hr : ∀ T tv σ vs H Q, vs.length = xs.length → Sta B S2 (xs ++ T) σ (vs ++ tv) H → (∀ w H', Sta B S3 (z :: T) σ (w :: tv) H' → Q w H') → r (.ref p) vs H Q)
    (hbase : attributeBase o name X.env (eval o X.env) = eval o X.env := by rfl)
    (hfew : ((backTo pos (starEach (e :: es) X.env)).all (fun x => !x.1) && (backToKw pos (keywordEach [] X.env)).all (fun x => x.1.isSome) && decide ((e :: es).length + ([] : List Keyword).length + (if ([] : List Keyword).isEmpty then 0 else 1) < 30)) = true := by rfl)
    (hline : (apos.endLine == pos.line) = true := by rfl) (hs : starEach (e :: es) X.env = (false, eval e X.env) :: starEach es X.env := by rfl) (hplain : (backTo pos (starEach es X.env)).any (·.1) = false := by rfl) : JE X B S (.Call (.Attribute o name apos) (e :: es) [] pos) S3 z := fun T tv σ H Q h q =>
  pe1 (pe_bm PySem.F.plainAttrs_list slot hty hm pe0 pa0 hbase hfew hline hs hplain) (ho _ _ _ _ _ h fun v H1 h1 => by
    have e := h1.exact
    subst e
    have h2 := h1.drop
    have h2' := h2
    obtain ⟨G, as, bs, z0⟩ := h2'
    obtain ⟨oo, m, hp, hc, _⟩ := z0.cellW hk (by intro e; cases e)
    cases hc with
    | lst hs => exact ⟨.inl ⟨rfl, _, .of hp⟩, ha _ _ _ _ _ h2 fun vs H3 hl h3 => hr _ _ _ _ _ _ hl h3 q⟩)
theorem je_append (k : Nat) (ho : JE X B S o S1 (.v (.ref p))) {ss0 : List Slot} (hk0 : S1.cs[k]? = some (p, .lst ss0)) (he : JE X B S1 e S2 y) (hk : S2.cs[k]? = some (p, .lst ss)) (hl : ss.length < 16777216) (hy : y.plain = true := by rfl)
    (hbase : attributeBase o "append" X.env (eval o X.env) = eval o X.env := by rfl) (hst : starEach [e] X.env = (false, eval e X.env) :: starEach [] X.env := by rfl)
    (hfew : ((backTo pos (starEach [e] X.env)).all (fun x => !x.1) && (backToKw pos (keywordEach [] X.env)).all (fun x => x.1.isSome) && decide (([e] : List Expr).length + ([] : List Keyword).length + (if ([] : List Keyword).isEmpty then 0 else 1) < 30)) = true := by rfl)
    (hline : (apos.endLine == pos.line) = true := by rfl) : JE X B S (.Call (.Attribute o "append" apos) [e] [] pos) ⟨S2.sl, S2.cs.set k (p, .lst (ss ++ [y]))⟩ (.v .non) :=
  je_bm k PySem.F.slot_list_append PySem.F.type_list_append mt_append ho hk0 (ja_cons he ja_nil hst) (fun T tv σ vs H Q hl' h q => by
    obtain ⟨v, rfl⟩ : ∃ v, vs = [v] := match vs, hl' with | [v], _ => ⟨v, rfl⟩
    obtain ⟨G, as, bs, z0⟩ := id h
    obtain ⟨a1, a2, rfl, hs1, z1⟩ := z0.pop
    obtain rfl := hs1.nil hy
    obtain ⟨oo, m, hp, hc, _, hm1, _, reb⟩ := z1.cellW hk (by intro e; cases e)
    cases hc with
    | @lst _ vs0 _ hs =>
      have hz : vs0.length < sizeLine := by rw [← hs.len]; exact hl
      refine ⟨p, vs0, v, rfl, rfl, hp, hz, ?_⟩
      have hnew : CeI G (upd H p (.lst (vs0 ++ [v]))) (.lst (ss ++ [y])) (.lst (vs0 ++ [v])) (m ++ []) := .lst ((hs.mono (Ex.refl G) fun a ha => upd_ne (hm1 a ha)).app (SsI.one hs1.any'))
      obtain ⟨bs', z3⟩ := reb hnew (by rw [List.append_nil]; exact List.Sublist.refl m)
      exact q _ _ (z3.push .v)) hbase hfew hline hst
/-- pop(i) -/
theorem je_popAt (k : Nat) {i : Int} {j : Nat} (ho : JE X B S o S1 (.v (.ref p))) {ss0 : List Slot} (hk0 : S1.cs[k]? = some (p, .lst ss0)) (he : JE X B S1 e S2 (.val i)) (hk : S2.cs[k]? = some (p, .lst ss)) (hp : ∀ s ∈ ss, s.plain = true) {s : Slot} (hj : ixp ss.length i = some j) (hl : ss[j]? = some s) (h63 : ss.length ≤ 16777216)
    (hbase : attributeBase o "pop" X.env (eval o X.env) = eval o X.env := by rfl) (hst : starEach [e] X.env = (false, eval e X.env) :: starEach [] X.env := by rfl)
    (hfew : ((backTo pos (starEach [e] X.env)).all (fun x => !x.1) && (backToKw pos (keywordEach [] X.env)).all (fun x => x.1.isSome) && decide (([e] : List Expr).length + ([] : List Keyword).length + (if ([] : List Keyword).isEmpty then 0 else 1) < 30)) = true := by rfl)
    (hline : (apos.endLine == pos.line) = true := by rfl) : JE X B S (.Call (.Attribute o "pop" apos) [e] [] pos) ⟨S2.sl, S2.cs.set k (p, .lst (ss.eraseIdx j))⟩ s :=
  je_bm k PySem.F.slot_list_pop PySem.F.type_list_pop mt_popAt ho hk0 (ja_cons he ja_nil hst) (fun T tv σ vs H Q hl' h q => by
    obtain ⟨v, rfl⟩ : ∃ v, vs = [v] := match vs, hl' with | [v], _ => ⟨v, rfl⟩
    have e := h.int
    subst e
    obtain ⟨G, as, bs, z1⟩ := h.drop
    obtain ⟨oo, m, hpp, hc, _, hm1, _, reb⟩ := z1.cellW hk (by intro e; cases e)
    cases hc with
    | @lst _ vs0 _ hs =>
      obtain rfl := hs.plain hp
      obtain ⟨u, hu, su⟩ := hs.get _ hl
      have hx : ixN vs0.length i = some j := by rw [← hs.len]; exact hj
      obtain ⟨x1, x2, x3, x4⟩ := ixN_seq hx
      have hlen := hs.len
      refine ⟨p, vs0, i, j, u, rfl, rfl, hpp, by omega, by omega, x1, hu, ?_⟩
      have hnew : CeI G (upd H p (.lst (vs0.eraseIdx j))) (.lst (ss.eraseIdx j)) (.lst (vs0.eraseIdx j)) [] := .lst (SsI.of_get (by rw [List.length_eraseIdx, List.length_eraseIdx, hs.len]) fun i s u h1 h2 => by
        rw [List.getElem?_eraseIdx] at h1 h2
        split at h1
        · rw [if_pos (by assumption)] at h2
          obtain ⟨u', e1, e2⟩ := hs.get _ h1
          rw [h2] at e1
          cases e1
          exact e2.any'
        · rw [if_neg (by assumption)] at h2
          obtain ⟨u', e1, e2⟩ := hs.get _ h1
          rw [h2] at e1
          cases e1
          exact e2.any')
      obtain ⟨bs', z3⟩ := reb hnew (List.Sublist.refl _)
      exact q _ _ (z3.push su.any')) hbase hfew hline hst
/-! ### xs[i] = e, xs[i] op= e -/
/-- name op= e, whole numbers -/
theorem js_augI (i : Nat) {n : Str} {pos' : Pos} {op : Operator} {f : Int → Int → Int} {m k0 : Int} (hop : PIp X op (ipI f)) (hv : S.sl[i]? = some (.val m)) (he : JE X B S e S1 (.val k0)) (k : JS X B ⟨S1.sl.set i (.val (f m k0)), S1.cs⟩ rest D) (hN : X.N.Nodup := by assumption) (hi : X.N[i]? = some n := by rfl)
    (hx : Loc X.env.scope n := by first | exact .inl rfl | exact .inr rfl) (hf : X.fn n = true ∨ X.env.scope.names.lookup n = some .local := by first | exact .inl rfl | exact .inr rfl) : JS X B S (.AugAssign (.Name n pos') op e pos :: rest) D :=
  js_step (ps_aug hN hi hx pe0 hop hf) fun T tv σ H h => by
    obtain ⟨v, h1, h2⟩ := h.get hv rfl
    have e := h2.int
    subst e
    refine ⟨.int m, h1, he _ _ _ _ _ h fun u H1 h3 => ?_⟩
    have e := h3.int
    subst e
    exact ⟨m, k0, rfl, rfl, k _ _ _ _ ((h3.drop.push fun _ _ => sl_int (f m k0)).set rfl i)⟩
end
end J
namespace J
universe u w
open PySem L2
open PySem.W (Datum DatumOrd Holds HoldAll)
section
variable {X : Cx} {pins : List (Addr × Obj)} {σ : St} {H : Hp} {s : Shared}
theorem holds_of {α : Type} [DecidableEq α] [Datum α] {t : α} {v : V} {u : Value} (I : Inv X pins σ H s) (h : Dq H v (Datum.toD t)) (r : RelV v u) : Holds s.heap u t := Dp.reads I _ _ _ (dq_dp h) r
theorem holdAll_of {α : Type} [DecidableEq α] [Datum α] {ts : List α} {vs : List V} {us : List Value} (I : Inv X pins σ H s) (h : DqAll H vs (ts.map Datum.toD)) (r : Vals vs us) : HoldAll s.heap us ts := Dp.readsAll I _ _ _ (dqAll_dp h) r
/-- the reading of a list's items: where it stands, what it holds -/
def LD (K : PySem.W.Frag) (H : Hp) (v : V) {α : Type} [DecidableEq α] [Datum α] (ts : List α) : Prop := ∃ a vs, v = .ref a ∧ SqL K H a vs ∧ DqAll H vs (ts.map Datum.toD)
def rEqT : R2 := fun x y H Q => ∃ (α : Type) (i1 : DecidableEq α) (i2 : Datum α) (t r : α), Dq H x (Datum.toD t) ∧ Dq H y (Datum.toD r) ∧ Datum.depth α ≤ 60 ∧ Q (.bl (decide (t = r))) H
def rNeT : R2 := fun x y H Q => ∃ (α : Type) (i1 : DecidableEq α) (i2 : Datum α) (t r : α), Dq H x (Datum.toD t) ∧ Dq H y (Datum.toD r) ∧ Datum.depth α ≤ 60 ∧ Q (.bl (decide (t ≠ r))) H
def rInT (K : PySem.W.Frag) : R2 := fun x y H Q => ∃ (α : Type) (i1 : DecidableEq α) (i2 : Datum α) (t : α) (ts : List α), Dq H x (Datum.toD t) ∧ LD K H y ts ∧ Datum.depth α ≤ 60 ∧ Q (.bl (decide (t ∈ ts))) H
theorem op_eqT (hu : X.A.units + 64 < cLine) : OpR X (compareOp .Eq) rEqT := by
  intro pins s σ H x y v u Q I rx ry h
  obtain ⟨α, i1, i2, t, r, h1, h2, hd, q⟩ := h
  exact PySem.W.eq_datum (holds_of I h1 rx) (holds_of I h2 ry) (by omega) ⟨.bl _, H, I, rfl, q⟩
theorem op_neT (hu : X.A.units + 64 < cLine) : OpR X (compareOp .NotEq) rNeT := by
  intro pins s σ H x y v u Q I rx ry h
  obtain ⟨α, i1, i2, t, r, h1, h2, hd, q⟩ := h
  exact PySem.W.ne_datum (holds_of I h1 rx) (holds_of I h2 ry) (by omega) ⟨.bl _, H, I, rfl, q⟩
theorem op_inT (hu : X.A.units + 64 < cLine) : OpR X (compareOp .In) (rInT X.K) := by
  intro pins s σ H x y v u Q I rx ry h
  obtain ⟨α, i1, i2, t, ts, h1, ⟨a, vs, rfl, hs, ha⟩, hd, q⟩ := h
  cases ry
  obtain ⟨its, r, pl, hz⟩ := I.list hs
  exact PySem.W.in_list_datum pl.isList (by simpa using holdAll_of I ha r) (holds_of I h1 rx) (by omega) ⟨.bl _, H, I, rfl, q⟩
/-- xs.index(x), x there; xs.count(x) -/
def rIdxT (K : PySem.W.Frag) : V → List V → Hp → VK → Prop := fun x vs H Q => ∃ (α : Type) (i1 : DecidableEq α) (i2 : Datum α) (t : α) (ts : List α) (y : V), vs = [y] ∧ Dq H y (Datum.toD t) ∧ LD K H x ts ∧ Datum.depth α ≤ 60 ∧ t ∈ ts ∧ Q (.int (ts.idxOf t : Nat)) H
def rCntT (K : PySem.W.Frag) : V → List V → Hp → VK → Prop := fun x vs H Q => ∃ (α : Type) (i1 : DecidableEq α) (i2 : Datum α) (t : α) (ts : List α) (y : V), vs = [y] ∧ Dq H y (Datum.toD t) ∧ LD K H x ts ∧ Datum.depth α ≤ 60 ∧ Q (.int (ts.countP fun y => decide (y = t) : Nat)) H
theorem mt_idxT (hu : X.A.units + 64 < cLine) : MtR X "list.index" (rIdxT X.K) := by
  intro pins s σ H x xs v us Q I rx rxs h
  obtain ⟨α, i1, i2, t, ts, y, rfl, h1, ⟨a, vs, rfl, hs, ha⟩, hd, hm, q⟩ := h
  cases rx
  obtain ⟨u, rfl, ru⟩ := vals1 rxs
  obtain ⟨its, r, pl, hz⟩ := I.list hs
  have hl : ts.length ≤ sizeLine := by
    have e := ((dqAll_ss (G := H) (H := H) ha).len)
    rw [List.length_map] at e
    omega
  exact PySem.W.index_list_datum pl.isList (holdAll_of I ha r) (holds_of I h1 ru) (by omega) hl hm ⟨.int _, H, I.tok _, ⟨_, rfl⟩, q⟩
theorem mt_cntT (hu : X.A.units + 64 < cLine) : MtR X "list.count" (rCntT X.K) := by
  intro pins s σ H x xs v us Q I rx rxs h
  obtain ⟨α, i1, i2, t, ts, y, rfl, h1, ⟨a, vs, rfl, hs, ha⟩, hd, q⟩ := h
  cases rx
  obtain ⟨u, rfl, ru⟩ := vals1 rxs
  obtain ⟨its, r, pl, hz⟩ := I.list hs
  exact PySem.W.count_list_datum pl.isList (by simpa using holdAll_of I ha r) (holds_of I h1 ru) (by omega) ⟨.int _, H, I.tok _, ⟨_, rfl⟩, q⟩
/-- min(xs), max(xs): an item -/
def rMinT (K : PySem.W.Frag) : List V → Hp → VK → Prop := fun ws H Q => ∃ (α : Type) (i1 : DecidableEq α) (i2 : DatumOrd α) (t : α) (ts : List α) (a : Addr) (vs : List V), ws = [.ref a] ∧ SqL K H a vs ∧ DqAll H vs ((t :: ts).map (@Datum.toD α i1 i2.toDatum)) ∧ @Datum.depth α i1 i2.toDatum ≤ 60 ∧ ∀ (i : Nat) v, vs[i]? = some v → (t :: ts : List α)[i]? = some (PySem.W.minOf t ts) → Q v H
theorem at_same {α : Type} [DecidableEq α] [DatumOrd α] {xs : List α} {vs : List V} {us : List Value} {h' : Heap} (I : Inv X pins σ H s) (ha : DqAll H vs (xs.map Datum.toD)) (r : Vals vs us) {i : Nat} {u : Value} (hi : us[i]? = some u) {m : α} (hm : Holds h' u m) (k : ∀ b o, s.heap.get? b = some o → h'.get? b = some o) : ∃ v, vs[i]? = some v ∧ RelV v u ∧ xs[i]? = some m := by
  have hl := r.length
  have hx := (dqAll_ss (G := H) (H := H) ha).len
  rw [List.length_map] at hx
  have hb := (List.getElem?_eq_some_iff.mp hi).1
  have hv : vs[i]? = some vs[i] := List.getElem?_eq_getElem (by omega)
  obtain ⟨u', e1, e2⟩ := r.get hv
  rw [hi] at e1
  cases e1
  refine ⟨vs[i], hv, e2, ?_⟩
  have hxi : xs[i]? = some xs[i] := List.getElem?_eq_getElem (by omega)
  have hxm : (xs.map Slot.val)[i]? = some (Slot.val xs[i]) := by rw [List.getElem?_map, hxi]; rfl
  obtain ⟨v', f1, f2⟩ := (dqAll_ss (G := H) (H := H) ha).get i hxm
  rw [hv] at f1
  cases f1
  cases f2 with
  | val d =>
    obtain ⟨as, h1⟩ := holds_of I d e2
    obtain ⟨bs, h2⟩ := hm
    have e := PySem.W.alike_unique _ _ _ _ _ (DatumOrd.alike xs[i] m) (PyProof.Rows.Reads.keeps k h1) h2
    have e3 := Datum.eqv xs[i] m
    rw [e, Datum.eqv, decide_eq_true rfl] at e3
    rw [hxi, of_decide_eq_true e3.symm]
theorem cr_minT (hu : X.A.units + 64 < cLine) (hc : X.calm = true) : CallR X (.builtin "min") (rMinT X.K) := by
  intro pins s σ H ws us Q I r h
  obtain ⟨α, i1, i2, t, ts, a, vs, rfl, hs, ha, hd, q⟩ := h
  obtain ⟨its, rv, pl, _⟩ := I.list hs
  rw [Vals.ref1 r]
  exact PySem.W.min_list_datum (I.ok.hd hc) pl.isList (by simpa using holdAll_of I ha rv) (by omega) fun i u h' tk hi hm hk => by
    obtain ⟨v, h1, h2, h3⟩ := at_same I ha rv (by simpa using hi) hm hk
    exact ⟨v, H, I.kept hk, h2, q i v h1 h3⟩
end
/-! ### over the typed states -/
def Dv {α : Type} [DecidableEq α] [Datum α] (B : Base) (S : Stt) (x : Slot) (t : α) : Prop := ∀ {T σ v tv H G as bs}, St0 B S (x :: T) σ (v :: tv) H G as bs → Dq H v (Datum.toD t)
section
variable {B : Base} {S : Stt} {α : Type} [DecidableEq α] [Datum α] {t : α}
theorem dv_fz {x : Slot} (f : FzS x (Datum.toD t)) : Dv B S x t := fun z => by
  obtain ⟨a1, a2, _, h, z'⟩ := z.pop
  exact f.dq h z.sub fun _ _ => rfl
theorem dv_val : Dv B S (.val t) t := dv_fz .val
theorem dv_cell (k : Nat) {p : Addr} {c : Cel} (hk : S.cs[k]? = some (p, c)) (f : FzC c (Datum.toD t)) : Dv B S (.v (.ref p)) t := fun z => by
  obtain ⟨a1, a2, _, h, z'⟩ := z.pop
  cases h with
  | v =>
    obtain ⟨l, o, m, r, _, hp, hc, _⟩ := z.cel.at k hk (by intro e; subst e; cases f)
    exact f.dq hc hp z.sub fun _ _ => rfl
theorem dv_cellL {xs : List α} (k : Nat) {p : Addr} (hk : S.cs[k]? = some (p, .lst (xs.map Slot.val))) : Dv B S (.v (.ref p)) xs := dv_cell k hk (fz_val xs)
theorem lv_ld {xs : List α} {x : Slot} {K : PySem.W.Frag} (hl : Lv K B S x (xs.map Slot.val)) {T σ v tv H G as bs} (z : St0 B S (x :: T) σ (v :: tv) H G as bs) : LD K H v xs := by
  obtain ⟨a, vs, rfl, hr, hss⟩ := hl z
  exact ⟨a, vs, rfl, hr, dqAll_mono z.sub (ss_dqAll hss)⟩
end
section
variable {X : Cx} {B : Base} {S S1 S2 S3 : Stt} {x y z : Slot} {a b e o : Expr} {es : List Expr} {pos apos : Pos} {D : FE} {rest : List Stmt} {α : Type} [DecidableEq α] [Datum α] {t r : α} {xs : List α} {k : Nat}
theorem o2_eq (h1 : Dv B S x t) (h2 : Dv B S y r) (hd : Datum.depth α ≤ 60) : O2 X B rEqT S x y S (.val (decide (t = r))) := fun T tv σ v u H Q h q => by
  obtain ⟨G, as, bs, z⟩ := h
  obtain ⟨a1, a2, rfl, _, z'⟩ := id z.pop
  exact ⟨α, _, _, t, r, h1 z', h2 z, hd, q _ _ (z'.sta.drop.push fun _ _ => sl_bl _)⟩
theorem o2_ne (h1 : Dv B S x t) (h2 : Dv B S y r) (hd : Datum.depth α ≤ 60) : O2 X B rNeT S x y S (.val (decide (t ≠ r))) := fun T tv σ v u H Q h q => by
  obtain ⟨G, as, bs, z⟩ := h
  obtain ⟨a1, a2, rfl, _, z'⟩ := id z.pop
  exact ⟨α, _, _, t, r, h1 z', h2 z, hd, q _ _ (z'.sta.drop.push fun _ _ => sl_bl _)⟩
theorem jt_eq' (hr : Room k X.A) (ha : JE X B S a S1 x) (hb : JE X B S1 b S2 y) (h1 : Dv B S2 x t) (h2 : Dv B S2 y r) (hd : Datum.depth α ≤ 60 := by decide) : JT X B S (.Compare a [.Eq] [b] pos) S2 (decide (t = r)) := jt_cmp (op_eqT hr.units) ha hb (o2_eq h1 h2 hd) (nomark _)
theorem jt_ne' (hr : Room k X.A) (ha : JE X B S a S1 x) (hb : JE X B S1 b S2 y) (h1 : Dv B S2 x t) (h2 : Dv B S2 y r) (hd : Datum.depth α ≤ 60 := by decide) : JT X B S (.Compare a [.NotEq] [b] pos) S2 (decide (t ≠ r)) := jt_cmp (op_neT hr.units) ha hb (o2_ne h1 h2 hd) (nomark _)
theorem o2_in (h1 : Dv B S x t) (h2 : Lv X.K B S y (xs.map Slot.val)) (hd : Datum.depth α ≤ 60) : O2 X B (rInT X.K) S x y S (.val (decide (t ∈ xs))) := fun T tv σ v u H Q h q => by
  obtain ⟨G, as, bs, z⟩ := h
  obtain ⟨a1, a2, rfl, _, z'⟩ := id z.pop
  exact ⟨α, _, _, t, xs, h1 z', lv_ld h2 z, hd, q _ _ (z'.sta.drop.push fun _ _ => sl_bl _)⟩
theorem jt_in (hr : Room k X.A) (ha : JE X B S a S1 x) (hb : JE X B S1 b S2 y) (h1 : Dv B S2 x t) (h2 : Lv X.K B S2 y (xs.map Slot.val)) (hd : Datum.depth α ≤ 60 := by decide) (hm : behindInMarks .In b = false := by rfl) : JT X B S (.Compare a [.In] [b] pos) S2 (decide (t ∈ xs)) := jt_cmp (op_inT hr.units) ha hb (o2_in h1 h2 hd) hm
def Nn (x : Slot) (q : Bool) : Prop := ∀ {G H v as}, SlI G H x v as → decide (v = .non) = q
theorem nn_opt {β : Type} [DecidableEq β] [Datum β] [PySem.W.SomeDatum β] {t : Option β} : Nn (.val t) t.isNone := fun h => by
  cases h with
  | val h =>
    cases t with
    | none => cases (show Dq _ _ PyData.none from h); rfl
    | some a =>
      have h' : Dq _ _ (Datum.toD a) := h
      have hne := PySem.W.SomeDatum.left a
      generalize Datum.toD a = d at h' hne
      cases h' with
      | non => simp [PyData.eqv] at hne
      | bl _ => rfl
      | int _ => rfl
      | str _ => rfl
      | lst _ _ => rfl
      | tup _ _ => rfl
theorem jt_isN {j : Nat} {p1 : Pos} {q : Bool} (ha : JE X B S a S1 x) (hx : Nn x q) : JT X B S (.Compare a [.Is] [.Constant .none j p1] pos) S1 q := fun T tv σ H Q h kk => pt1 (pt_cmp (pc_isN pe0)) (ha _ _ _ _ _ h fun v H1 h1 => by
  obtain ⟨G, as, g, _⟩ := h1.top
  rw [hx g]
  exact ⟨q, rfl, kk _ h1.drop⟩)
/-! min(xs), max(xs) -/
theorem je_minT {β : Type} [DecidableEq β] [DatumOrd β] {t : β} {ts : List β} {p : Pos} (hr : Room k X.A) (hm : X.mg "min" = none) (ha : JE X B S e S1 x) (hl : Lv X.K B S1 x ((t :: ts).map Slot.val)) (hc : X.calm = true := by rfl) (hd : Datum.depth β ≤ 60 := by decide) (hg : Gl X "min" := by rfl) (hst : starEach [e] X.env = (false, eval e X.env) :: starEach [] X.env := by rfl) : JE X B S (.Call (.Name "min" p) [e] [] pos) S1 (.val (PySem.W.minOf t ts)) :=
  je_callB (cr_minT hr.units hc) hm PyProof.Rows.boot_min (ja_cons ha ja_nil hst) (oc1 fun T tv σ v H Q hs q => by
    obtain ⟨G, as, bs, z⟩ := id hs
    obtain ⟨a, vs, rfl, hr, hss⟩ := hl z
    obtain ⟨a1, a2, rfl, _, z'⟩ := id z.pop
    refine ⟨β, _, _, t, ts, a, vs, rfl, hr, dqAll_mono z.sub (ss_dqAll hss), hd, fun i v h1 h2 => ?_⟩
    have hx : ((t :: ts).map Slot.val)[i]? = some (Slot.val (PySem.W.minOf t ts)) := by rw [List.getElem?_map, h2] <;> rfl
    obtain ⟨v', e1, e2⟩ := hss.get i hx
    rw [h1] at e1
    cases e1
    exact q _ _ (z'.push e2)) hg (by decide) (by decide) hst
end
end J
namespace J
universe u w
open PySem L2
open PySem.W (Datum DatumOrd Holds HoldAll T3 T4)
section
variable {X : Cx} {B : Base} {S S1 S2 S3 : Stt} {x y z : Slot} {a b e o : Expr} {es : List Expr} {pos apos : Pos} {D : FE} {rest : List Stmt} {k : Nat} {tg : Expr}
/-! ### what loops walk -/
/-- a list: a value, or one that has a name and is left as it is -/
theorem ji_list {α : Type} [DecidableEq α] [Datum α] {xs : List α} {ok : Stt → Prop} (ha : JE X B S e S1 x) (hl : Lv X.K B S1 x (xs.map Slot.val)) (hok : ∀ S, ok S → Lv X.K B S x (xs.map Slot.val)) : JI X B S tg e S1 [x] (xs.map Slot.val) ok := fun T tv σ H R hs q =>
  pi1 (pi_list pe0) (ha _ _ _ _ _ hs fun v H1 h1 => by
    obtain ⟨G, as, bs, z⟩ := id h1
    obtain ⟨p, vs, rfl, hr, hss⟩ := hl z
    refine ⟨p, rfl, ⟨vs, hr⟩, q (Itl X.K p) [.ref p] H1 rfl h1 ⟨fun S T σ tv H i s hS hi h => ?_, fun S T σ tv H hS h => ?_⟩⟩
    · obtain ⟨G, as, bs, z⟩ := id h
      obtain ⟨p', vs', e, hr', hss'⟩ := hok S hS z
      cases e
      obtain ⟨u, hu, su⟩ := hss'.get i hi
      refine ⟨⟨vs', u, hr', hu⟩, fun v H' hy => ?_⟩
      obtain ⟨rfl, hy⟩ := hy
      have e := hy vs' (hr')
      rw [hu] at e
      cases e
      exact z.push su
    · obtain ⟨G, as, bs, z⟩ := id h
      obtain ⟨p', vs', e, hr', hss'⟩ := hok S hS z
      cases e
      exact ⟨vs', hr', Nat.le_of_eq hss'.len.symm⟩)
theorem ji_val {α : Type} [DecidableEq α] [Datum α] {xs : List α} (ha : JE X B S e S1 (.val xs)) : JI X B S tg e S1 [.val xs] (xs.map Slot.val) (fun _ => True) := ji_list ha lv_val fun _ _ => lv_val
theorem ji_cell {α : Type} [DecidableEq α] [Datum α] {xs : List α} {p : Addr} (k : Nat) (ha : JE X B S e S1 (.v (.ref p))) (hk : S1.cs[k]? = some (p, .lst (xs.map Slot.val))) : JI X B S tg e S1 [.v (.ref p)] (xs.map Slot.val) (fun S => S.cs[k]? = some (p, .lst (xs.map Slot.val))) := ji_list ha (lv_cell' k hk) fun _ h => lv_cell' k h
theorem ji_pre {ns : List Int} {p : Addr} (ha : JE X B S e S1 (.v (.ref p))) (h : SqL X.K B.G p (ns.map V.int)) : JI X B S tg e S1 [.v (.ref p)] (ns.map Slot.val) (fun _ => True) := ji_list ha (lv_pre h) fun _ _ => lv_pre h
/-- lo, lo + 1, .. -/
def rng (lo : Int) (n : Nat) : List Int := (List.range n).map fun i : Nat => lo + (i : Int)
theorem rng_len (lo : Int) (n : Nat) : (rng lo n).length = n := by unfold rng; rw [List.length_map, List.length_range]
theorem rng_get {lo : Int} {n i : Nat} {m : Int} (h : (rng lo n)[i]? = some m) : i < n ∧ m = lo + i := by
  unfold rng at h
  rw [List.getElem?_map] at h
  cases q : (List.range n)[i]? with
  | none => rw [q] at h; cases h
  | some j =>
    rw [q] at h
    cases h
    obtain ⟨h1, h2⟩ := List.getElem?_eq_some_iff.mp q
    rw [List.getElem_range] at h2
    subst h2
    rw [List.length_range] at h1
    exact ⟨h1, rfl⟩
theorem wk_range {lo : Int} {n : Nat} : Wk X B [] [] ((rng lo n).map Slot.val) (fun _ => True) (Itr lo n) :=
  ⟨fun S T σ tv H i s _ hi h => by
    rw [List.getElem?_map] at hi
    cases q : (rng lo n)[i]? with
    | none => rw [q] at hi; cases hi
    | some m =>
      rw [q] at hi
      cases hi
      obtain ⟨h1, rfl⟩ := rng_get q
      exact ⟨h1, fun v H' ⟨e1, e2⟩ => by
        subst e1 e2
        exact h.push fun _ _ => sl_int _⟩, fun S T σ tv H _ _ => by
    rw [List.length_map, rng_len]
    exact Nat.le_refl _⟩
theorem ji_range1 {p : Pos} {j : Int} (hm : X.mg "range" = none) (ha : JE X B S e S1 (.val j)) (hj : -(4611686018427387904 : Int) ≤ j ∧ j < 4611686018427387904) (hg : Gl X "range" := by rfl) (hst : starEach [e] X.env = (false, eval e X.env) :: starEach [] X.env := by rfl) (hs : starEach [e] X.env = [(false, eval e X.env)] := by rfl) : JI X B S tg (.Call (.Name "range" p) [e] [] pos) S1 [] ((rng 0 j.toNat).map Slot.val) (fun _ => True) := fun T tv σ H R h q =>
  pi1 (pi_range1 hg hm pa0 hs) (ja_cons ha ja_nil hst _ _ _ _ _ h fun vs H1 hl h1 => by
    obtain ⟨v, rfl⟩ : ∃ v, vs = [v] := match vs, hl with | [v], _ => ⟨v, rfl⟩
    have e := h1.int
    subst e
    exact ⟨j, rfl, hj.1, hj.2, q _ [] _ rfl h1.drop wk_range⟩)
theorem ji_range2 {p : Pos} {i j : Int} (hm : X.mg "range" = none) (ha : JE X B S a S1 (.val i)) (hb : JE X B S1 b S2 (.val j)) (hj : (-(4611686018427387904 : Int) ≤ i ∧ i < 4611686018427387904) ∧ -(4611686018427387904 : Int) ≤ j ∧ j < 4611686018427387904) (hg : Gl X "range" := by rfl) (hst : starEach [a, b] X.env = (false, eval a X.env) :: starEach [b] X.env := by rfl) (hst2 : starEach [b] X.env = (false, eval b X.env) :: starEach [] X.env := by rfl)
    (hs : starEach [a, b] X.env = [(false, eval a X.env), (false, eval b X.env)] := by rfl) (hs2 : starEach [b] X.env = [(false, eval b X.env)] := by rfl) : JI X B S tg (.Call (.Name "range" p) [a, b] [] pos) S2 [] ((rng i (j - i).toNat).map Slot.val) (fun _ => True) := fun T tv σ H R h q =>
  pi1 (pi_range2 hg hm pa0 hs hs2) (ja_cons ha (ja_cons hb ja_nil hst2) hst _ _ _ _ _ h fun vs H1 hl h1 => by
    obtain ⟨v, u, rfl⟩ : ∃ v u, vs = [v, u] := match vs, hl with | [v, u], _ => ⟨v, u, rfl⟩
    have e := h1.int
    have e2 := h1.drop.int
    subst e e2
    exact ⟨i, j, rfl, ⟨hj.1.1, hj.1.2, hj.2.1, hj.2.2⟩, q _ [] _ rfl h1.drop.drop wk_range⟩)
/-- enumerate -/
def enu {α : Type} (i : Int) : List α → List (Int × α)
  | [] => []
  | x :: xs => (i, x) :: enu (i + 1) xs
theorem enu_len {α : Type} : ∀ (i : Int) (xs : List α), (enu i xs).length = xs.length
  | _, [] => rfl
  | i, _ :: xs => congrArg Nat.succ (enu_len (i + 1) xs)
theorem enu_get {α : Type} : ∀ (i : Int) (xs : List α) (n : Nat) {p : Int × α}, (enu i xs)[n]? = some p → p.1 = i + n ∧ xs[n]? = some p.2
  | _, [], _, _, h => by simp [enu] at h
  | i, x :: xs, 0, p, h => by
    have e : (i, x) = p := Option.some.inj h
    subst e
    exact ⟨by simp, rfl⟩
  | i, x :: xs, n + 1, p, h => by
    obtain ⟨h1, h2⟩ := enu_get (i + 1) xs n (show (enu (i + 1) xs)[n]? = some p from h)
    exact ⟨by rw [h1]; omega, h2⟩
theorem sl_dq {α : Type} [DecidableEq α] [Datum α] {G H : Hp} {u : V} {as : List Addr} {t : α} (h : SlI G H (.val t) u as) : Dq G u (Datum.toD t) := by
  cases h with
  | val h => exact h
/-! ### targets that are tuples -/
structure tgsOf (X : Cx) (ts : List Expr) (vs : List V) (σ : St) (H : Hp) (Q : St → Hp → Prop) : Prop where
  run : ∀ pins s us, Inv X pins σ H s → Vals vs us → wpAny (model X.prog X.w) X.A (assignInOrder ((assignEach ts X.env).map (·.2)) us) (fun _ s' => ∃ σ' H', Inv X pins σ' H' s' ∧ Q σ' H') X.xe s
theorem pgs0 {ts : List Expr} : PGs X ts (tgsOf X ts) := ⟨fun pins s _ _ _ us _ I r h => h.run pins s us I r⟩
theorem pgs1 {ts : List Expr} {t : TGs} (h : PGs X ts t) {vs : List V} {σ : St} {H : Hp} {Q : St → Hp → Prop} (q : t vs σ H Q) : tgsOf X ts vs σ H Q := ⟨fun pins s us I r => h.run pins s σ H vs us Q I r q⟩
def JGs (X : Cx) (B : Base) (S : Stt) (ts : List Expr) (xs : List Slot) (S' : Stt) (ws : List Nat) : Prop := ∀ T tv σ vs H Q, vs.length = xs.length → Sta B S (xs ++ T) σ (vs ++ tv) H → (∀ σ' H', Chg ws σ σ' → Sta B S' T σ' tv H' → Q σ' H') → tgsOf X ts vs σ H Q
theorem jgs_nil : JGs X B S [] [] S [] := fun T tv σ vs H Q hl h q => match vs, hl with
  | [], _ => pgs1 pgs_nil ⟨rfl, q _ _ (Chg.refl _ _) h⟩
theorem jgs_cons {ts : List Expr} {xs : List Slot} {ws ws' : List Nat} (h1 : JG X B S tg x S1 ws) (h2 : JGs X B S1 ts xs S2 ws') (hs : (assignEach (tg :: ts) X.env).map (·.2) = assign tg X.env :: (assignEach ts X.env).map (·.2) := by rfl) : JGs X B S (tg :: ts) (x :: xs) S2 (ws ++ ws') := fun T tv σ vs H Q hl h q => match vs, hl with
  | v :: vs, hl => pgs1 (pgs_cons pg0 pgs0 hs) ⟨v, vs, rfl, h1 _ _ _ _ _ _ h fun σ' H' c g => h2 _ _ _ _ _ _ (Nat.succ.inj hl) g fun σ2 H2 c2 g2 => q σ2 H2 (c.app c2) g2⟩
/-- a tuple's items -/
theorem jg_tup {es : List Expr} {kk : Nat} {α : Type} [DecidableEq α] [Datum α] {t : α} {ds : List PyData} {xs : List Slot} (ht : Datum.toD t = .tuple ds) (hx : ∀ {G H : Hp} {vs : List V}, DqAll G vs ds → SsI G H xs vs []) {ws : List Nat} (h : JGs X B S es xs S1 ws) (hc : X.calm = true := by rfl) (hn : (assignEach es X.env).length = xs.length := by rfl) (hst : (assignEach es X.env).findIdx? (·.1) = none := by rfl) : JG X B S (.Tuple es kk pos) (.val t) S1 ws := fun T tv σ v H Q hs q =>
  pg1 (pg_tup hc pgs0 rfl hst) (by
    obtain ⟨G, as, bs, z⟩ := hs
    obtain ⟨a1, a2, rfl, g, z'⟩ := z.pop
    cases g with
    | val g =>
      rw [ht] at g
      cases g with
      | @tup p vs _ hp ha =>
        have hss : SsI G H xs vs [] := hx ha
        refine ⟨p, vs, rfl, .of (z.sub _ _ hp), by rw [hn, hss.len], ?_⟩
        exact h _ _ _ _ _ _ hss.len.symm ⟨G, [] ++ a2, bs, hss.app z'.tmp, z'.cel, z'.slo, z'.nod, z'.fre, z'.gro, z'.new, z'.sub, z'.frm⟩ q)
theorem jg_pair {e1 e2 : Expr} {kk : Nat} {α β : Type} [DecidableEq α] [Datum α] [DecidableEq β] [Datum β] {t : α × β} {ws : List Nat} (h : JGs X B S [e1, e2] [.val t.1, .val t.2] S1 ws) (hc : X.calm = true := by rfl) (hn : (assignEach [e1, e2] X.env).length = 2 := by rfl) (hst : (assignEach [e1, e2] X.env).findIdx? (·.1) = none := by rfl) : JG X B S (.Tuple [e1, e2] kk pos) (.val t) S1 ws :=
  jg_tup (ds := [Datum.toD t.1, Datum.toD t.2]) rfl (fun h => by
    cases h with
    | cons h1 h2 =>
      cases h2 with
      | cons h2 h3 =>
        cases h3
        exact .cons (as := []) (.val h1) (.cons (as := []) (.val h2) .nil)) h hc hn hst
/-! ### comprehensions -/
/-- within the block: the same context but the frame -/
abbrev Blk (X : Cx) (scope : Scope) (P : Cx → Prop) : Prop := ∀ (s : Shared) (H : Hp) (C : Addr) (cl : List (Str × Addr)) (fp : List Addr), P (X.blk s H scope (compEnvC scope cl C X.env) fp)
/-- tests -/
def ttsOf (X : Cx) (ifs : List Expr) : TT := fun σ H Q => ∃ t, PTs X ifs t ∧ t σ H Q
def JTs (X : Cx) (B : Base) (S : Stt) (ifs : List Expr) (S' : Stt) (p : Bool) : Prop := ∀ T tv σ H (Q : Bool → Hp → Prop), Sta B S T σ tv H → (∀ H', Sta B S' T σ tv H' → Q p H') → ∃ t, PTs X ifs t ∧ t σ H Q
theorem jts_nil : JTs X B S [] S true := fun T tv σ H Q hs q => ⟨_, pts_nil, q H hs⟩
theorem jts_one {c : Expr} {p : Bool} (h : JT X B S c S1 p) : JTs X B S [c] S1 p := fun T tv σ H Q hs q => ⟨_, pts_one pt0, h _ _ _ _ _ hs q⟩
def AnyAt (sl : List Slot) (vs : List Nat) : Prop := ∀ i ∈ vs, ∀ s, sl[i]? = some s → s = .any
theorem SgI.wip {G : Hp} {sl : List Slot} {σ : St} {vs : List Nat} (h : AnyAt sl vs) (g : SgI G sl σ) : SgI G sl (wipe σ vs) := by
  refine ⟨by rw [wipe_length]; exact g.1, fun i s hs => ?_⟩
  by_cases hi : i ∈ vs
  · have e := h i hi s hs
    subst e
    have hlt := (List.getElem?_eq_some_iff.mp hs).1
    exact ⟨(wipe σ vs)[i]'(by rw [wipe_length, ← g.1]; exact hlt), List.getElem?_eq_getElem _, trivial⟩
  · rw [wipe_get, if_neg hi]
    exact g.2 i s hs
theorem SgI.unwip {G : Hp} {sl : List Slot} {σ : St} {vs : List Nat} (h : AnyAt sl vs) (g : SgI G sl (wipe σ vs)) : SgI G sl σ := by
  refine ⟨by rw [← wipe_length σ vs]; exact g.1, fun i s hs => ?_⟩
  by_cases hi : i ∈ vs
  · have e := h i hi s hs
    subst e
    have hlt := (List.getElem?_eq_some_iff.mp hs).1
    exact ⟨σ[i]'(by rw [← wipe_length σ vs, ← g.1]; exact hlt), List.getElem?_eq_getElem _, trivial⟩
  · have := g.2 i s hs
    rw [wipe_get, if_neg hi] at this
    exact this
theorem Sta.wip {T : List Slot} {σ : St} {tv : List V} {H : Hp} {vs : List Nat} (h : AnyAt S.sl vs) (g : Sta B S T σ tv H) : Sta B S T (wipe σ vs) tv H := by
  obtain ⟨G, as, bs, z1, z2, z3, z⟩ := g
  exact ⟨G, as, bs, z1, z2, z3.wip h, by assumption, by assumption, by assumption, by assumption, by assumption, by assumption⟩
theorem Sta.unwip {T : List Slot} {σ : St} {tv : List V} {H : Hp} {vs : List Nat} (h : AnyAt S.sl vs) (g : Sta B S T (wipe σ vs) tv H) : Sta B S T σ tv H := by
  obtain ⟨G, as, bs, z1, z2, z3, z4, z5, z6, z7, z8, z9⟩ := g
  exact ⟨G, as, bs, z1, z2, z3.unwip h, z4, z5, z6, z7, z8, z9⟩
def cmpM {ι α β : Type} (f : ι → α → Option (Option β × ι)) : List α → ι → Option (List β × ι)
  | [], s => some ([], s)
  | x :: xs, s => (f s x).bind fun p => (cmpM f xs p.2).bind fun q => some (match p.1 with
    | some y => (y :: q.1, q.2)
    | none => q)
/-- one more item at the end of a list that is laid on top -/
theorem Sta.appT {T : List Slot} {σ : St} {tv : List V} {H : Hp} {acc : List Slot} {v : V} {D : Addr} (h : Sta B S (y :: .own (.lst acc) :: T) σ (v :: .ref D :: tv) H) : ∃ va, H D = some (.lst va) ∧ va.length = acc.length ∧ Sta B S (.own (.lst (acc ++ [y])) :: T) σ (.ref D :: tv) (upd H D (.lst (va ++ [v]))) := by
  obtain ⟨G, as, bs, z⟩ := h
  obtain ⟨a1, a2, rfl, g1, z1⟩ := z.pop
  obtain ⟨a3, a4, rfl, g2, z2⟩ := z1.pop
  cases g2 with
  | @own _ _ o m hD hc =>
    cases hc with
    | @lst _ va _ hs =>
      refine ⟨va, hD, hs.len.symm, ?_⟩
      have nd := z.nod
      have pm : ((D :: (m ++ a1)) ++ a4 ++ bs).Perm (a1 ++ ((D :: m) ++ a4) ++ bs) := by
        refine List.Perm.append_right _ ?_
        have e1 : ((D :: (m ++ a1)) ++ a4).Perm ((a1 ++ (D :: m)) ++ a4) := List.Perm.append_right _ (by
          have : ((D :: m) ++ a1).Perm (a1 ++ (D :: m)) := List.perm_append_comm
          exact this)
        rw [List.append_assoc a1] at e1
        exact e1
      have nd2 := pm.nodup_iff.mpr nd
      have nD : ∀ a ∈ m ++ a1 ++ a4 ++ bs, a ≠ D := fun a ha e => by
        subst e
        have : ((a :: (m ++ a1)) ++ a4 ++ bs) = a :: (m ++ a1 ++ a4 ++ bs) := by simp
        rw [this] at nd2
        exact (List.nodup_cons.mp nd2).1 ha
      have fr := fun a ha => z.fre a (pm.mem_iff.mp ha)
      have hG : G D = none := (fr D (by simp)).1
      have hF : B.F D = none := (fr D (by simp)).2
      have k1 : SsI G (upd H D (.lst (va ++ [v]))) acc va m := hs.mono (Ex.refl G) fun a ha => upd_ne (nD a (by simp [ha]))
      have k2 : SlI G (upd H D (.lst (va ++ [v]))) y v a1 := g1.mono (Ex.refl G) fun a ha => upd_ne (nD a (by simp [ha]))
      exact ⟨G, (D :: (m ++ a1)) ++ a4, bs, .cons (.own upd_same (.lst (k1.app (SsI.one k2)))) (z2.tmp.mono (Ex.refl G) fun a ha => upd_ne (nD a (by simp [ha]))), z2.cel.mono (Ex.refl G) fun a ha => upd_ne (nD a (by simp [ha])), z.slo, nd2, fr, z.gro, z.new,
        fun a u ha => by rw [upd_ne (by intro e; subst e; rw [hG] at ha; cases ha)]; exact z.sub a u ha, fun a u ha => by rw [upd_ne (by intro e; subst e; rw [hF] at ha; cases ha)]; exact z.frm a u ha⟩
abbrev Le (B : Base) (S S' : Stt) : Prop := ∀ T tv σ H, Sta B S T σ tv H → Sta B S' T σ tv H
theorem lc_t {ι α β : Type} [DecidableEq α] [Datum α] {xs : List α} {f : ι → α → Option (Option β × ι)} {el : β → Slot} {Sf : ι → Stt} {Sb : ι → α → Stt} {s0 sE : ι} {ys : List β} {iter elt : Expr} {ifs : List Expr} {scope : Scope} {own : List (Str × Nat)} {zs : List Slot} {ok : Stt → Prop} {ws : List Nat}
    (hf : cmpM f xs s0 = some (ys, sE)) (hlen : xs.length ≤ 16777216) (hN : X.N.Nodup) (hbk : BlkOk X.N X.env.scope scope own)
    (hi : JI X B S tg iter S1 zs (xs.map Slot.val) ok) (h0 : Le B S1 (Sf s0)) (hok : ∀ s, ok (Sf s)) (hv : ∀ s, AnyAt (Sf s).sl (own.map (·.2))) (hws : ∀ i ∈ ws, i ∈ own.map (·.2))
    (hg : ∀ s x, Blk X scope fun Y => JG Y B (Sf s) tg (.val x) (Sb s x) ws)
    (hb : ∀ s x o s', x ∈ xs → f s x = some (o, s') → ∃ (p : Bool) (St : Stt), (Blk X scope fun Y => JTs Y B (Sb s x) ifs St p) ∧ (p = true → ∃ y Se, o = some y ∧ (Blk X scope fun Y => JE Y B St elt Se (el y)) ∧ Le B Se (Sf s')) ∧ (p = false → o = none ∧ Le B St (Sf s')))
    {T : List Slot} {σ : St} {tv : List V} {H : Hp} {Q : VK} (h : Sta B S T σ tv H) (q : ∀ v H', Sta B (Sf sE) (.own (.lst (ys.map el)) :: T) σ (v :: tv) H' → Q v H') : tLc (tiOf X tg iter) (fun v σ H Q => Blk X scope fun Y => tgOf Y tg v σ H Q) (fun σ H Q => Blk X scope fun Y => ttsOf Y ifs σ H Q) (fun σ H Q => Blk X scope fun Y => teOf Y elt σ H Q) (own.map (·.2)) σ H Q :=
  hi _ _ _ _ _ h fun J zv H1 hl h1 wk => fun Dd hD => by
      have hS0 := h0 _ _ _ _ h1
      obtain ⟨G0, as0, bs0, z0⟩ := id hS0
      have start : Sta B (Sf s0) (.own (.lst ([].map el)) :: (zs ++ T)) σ (.ref Dd :: (zv ++ tv)) (upd H1 Dd (.lst [])) := z0.newO hD (.lst .nil)
      refine ⟨fun i m H => m = xs.length - i ∧ i ≤ xs.length ∧ ∃ s acc more, cmpM f (xs.drop i) s = some (more, sE) ∧ ys = acc ++ more ∧ acc.length ≤ i ∧ Sta B (Sf s) (.own (.lst (acc.map el)) :: (zs ++ T)) σ (.ref Dd :: (zv ++ tv)) H, ⟨xs.length, by simp, Nat.zero_le _, s0, [], ys, hf, rfl, Nat.zero_le _, start⟩, ?_⟩
      rintro i m H ⟨rfl, hle, s, acc, more, hm, hys, hacc, hS⟩
      have rotz : ∀ {S : Stt} {s : Slot} {u : V} {σ : St} {H : Hp}, Sta B S (s :: (zs ++ T)) σ (u :: (zv ++ tv)) H → Sta B S (zs ++ s :: T) σ (zv ++ u :: tv) H := fun {S s u σ H} h => by
        obtain ⟨G, as, bs, z⟩ := h
        obtain ⟨a1, a2, rfl, g1, z1⟩ := z.pop
        obtain ⟨a3, a4, rfl, g2, z2⟩ := z1.split hl.symm
        have pm : (a3 ++ (a1 ++ a4) ++ bs).Perm (a1 ++ (a3 ++ a4) ++ bs) := List.Perm.append_right _ (by
          rw [← List.append_assoc, ← List.append_assoc]
          exact List.Perm.append_right _ List.perm_append_comm)
        exact ⟨G, a3 ++ (a1 ++ a4), bs, g2.app (.cons g1 z2.tmp), z.cel, z.slo, pm.nodup_iff.mpr z.nod, fun a ha => z.fre a (pm.mem_iff.mp ha), z.gro, z.new, z.sub, z.frm⟩
      by_cases hlt : i < xs.length
      · rw [List.drop_eq_getElem_cons hlt] at hm
        refine bnd hm fun pr e1 e2 => bnd e2 fun qr e3 e4 => .inr ?_
        obtain ⟨o, s'⟩ := pr
        obtain ⟨more', sE'⟩ := qr
        have hx : (xs.map Slot.val)[i]? = some (Slot.val xs[i]) := by rw [List.getElem?_map, List.getElem?_eq_getElem hlt] <;> rfl
        obtain ⟨w1, w2⟩ := wk.go _ _ _ _ _ i _ (hok s) hx (rotz (hS.wip (hv s)))
        obtain ⟨w1', _⟩ := wk.go _ _ _ _ _ i _ (hok s) hx (rotz hS)
        obtain ⟨p, St, hT, hp1, hp0⟩ := hb s xs[i] o s' (List.getElem_mem hlt) e1
        refine ⟨w1', fun H => i < xs.length ∧ ∃ s acc more, cmpM f (xs.drop (i + 1)) s = some (more, sE) ∧ ys = acc ++ more ∧ acc.length ≤ i + 1 ∧ Sta B (Sf s) (.own (.lst (acc.map el)) :: (zs ++ T)) σ (.ref Dd :: (zv ++ tv)) H, fun H' ⟨_, g⟩ => ⟨xs.length - (i + 1), by omega, rfl, hlt, g⟩, fun v H' hy => ?_⟩
        have hS2 := w2 v H' hy
        -- the item on top, then the list that grows
        have hS3 : Sta B (Sf s) (.val xs[i] :: .own (.lst (acc.map el)) :: (zs ++ T)) (wipe σ (own.map (·.2))) (v :: .ref Dd :: (zv ++ tv)) H' := by
          obtain ⟨G, as, bs, z⟩ := hS2
          obtain ⟨a1, a2, rfl, g1, z1⟩ := z.pop
          obtain ⟨a3, a4, rfl, g2, z2⟩ := z1.split hl.symm
          obtain ⟨a5, a6, rfl, g3, z3⟩ := z2.pop
          have pm : (a1 ++ (a5 ++ (a3 ++ a6)) ++ bs).Perm (a1 ++ (a3 ++ (a5 ++ a6)) ++ bs) := List.Perm.append_right _ (List.Perm.append_left _ (by
            rw [← List.append_assoc, ← List.append_assoc]
            exact List.Perm.append_right _ List.perm_append_comm))
          exact ⟨G, a1 ++ (a5 ++ (a3 ++ a6)), bs, .cons g1 (.cons g3 (g2.app z3.tmp)), z.cel, z.slo, pm.nodup_iff.mpr z.nod, fun a ha => z.fre a (pm.mem_iff.mp ha), z.gro, z.new, z.sub, z.frm⟩
        intro s1 H01 C1 cl1 fp1
        refine hg s xs[i] s1 H01 C1 cl1 fp1 _ _ _ _ _ _ hS3 fun σ2 H2 chg h2 => ⟨?_, ?_⟩
        · rw [chg _ hws, wipe_wipe]
        · have back : ∀ {S : Stt} {T : List Slot} {tv : List V} {H : Hp} {s : ι}, Sta B S T σ2 tv H → Le B S (Sf s) → Sta B (Sf s) T σ tv H := fun {S T tv H s} h hle => by
            have h3 := (hle _ _ _ _ h).wip (hv s)
            rw [chg _ hws, wipe_wipe] at h3
            exact h3.unwip (hv s)
          intro s2 H02 C2 cl2 fp2
          refine hT s2 H02 C2 cl2 fp2 _ _ _ _ _ h2 fun H3 h3 => ?_
          cases p with
          | true =>
            rw [if_pos rfl]
            obtain ⟨y, Se, rfl, he, hle'⟩ := hp1 rfl
            intro s3 H03 C3 cl3 fp3
            refine he s3 H03 C3 cl3 fp3 _ _ _ _ _ h3 fun w H4 h4 => ?_
            obtain ⟨va, hDv, hvl, h5⟩ := Sta.appT h4
            refine ⟨va, hDv, ?_, hlt, s', acc ++ [y], more', ?_, ?_, ?_, ?_⟩
            · rw [hvl, List.length_map]
              exact Nat.lt_of_lt_of_le (Nat.lt_of_le_of_lt hacc hlt) hlen
            · have e5 : (y :: more', sE') = (more, sE) := Option.some.inj e4
              cases e5
              exact e3
            · have e5 : (y :: more', sE') = (more, sE) := Option.some.inj e4
              cases e5
              rw [hys, List.append_assoc]
              rfl
            · rw [List.length_append]
              exact Nat.succ_le_succ hacc
            · rw [List.map_append]
              exact back h5 hle'
          | false =>
            rw [if_neg (by decide)]
            obtain ⟨rfl, hle'⟩ := hp0 rfl
            have e5 : (more', sE') = (more, sE) := Option.some.inj e4
            cases e5
            exact ⟨hlt, s', acc, _, e3, hys, Nat.le_succ_of_le hacc, back h3 hle'⟩
      · have e : i = xs.length := by omega
        subst e
        rw [List.drop_length] at hm
        have e5 : (([] : List β), s) = (more, sE) := Option.some.inj hm
        cases e5
        have st := wk.stop _ _ _ _ _ (hok _) (rotz hS)
        rw [List.length_map] at st
        rw [List.append_nil] at hys
        subst hys
        refine .inl ⟨st, q _ _ ?_⟩
        obtain ⟨G, as, bs, z⟩ := hS
        obtain ⟨a1, a2, rfl, g1, z1⟩ := z.pop
        obtain ⟨a3, a4, rfl, g2, z2⟩ := z1.split hl.symm
        have sub : (a1 ++ a4 ++ bs).Sublist (a1 ++ (a3 ++ a4) ++ bs) := ((List.Sublist.refl a1).append (List.sublist_append_right a3 a4)).append (List.Sublist.refl bs)
        exact ⟨G, a1 ++ a4, bs, .cons g1 z2.tmp, z.cel, z.slo, sub.nodup z.nod, fun a ha => z.fre a (sub.mem ha), z.gro, z.new, z.sub, z.frm⟩
theorem je_lc {ι α β : Type} [DecidableEq α] [Datum α] {xs : List α} {f : ι → α → Option (Option β × ι)} {el : β → Slot} {Sf : ι → Stt} {Sb : ι → α → Stt} {s0 sE : ι} {ys : List β} {iter elt : Expr} {ifs : List Expr} {scope : Scope} {own : List (Str × Nat)} {zs : List Slot} {ok : Stt → Prop} {ws : List Nat}
    (hf : cmpM f xs s0 = some (ys, sE)) (hlen : xs.length ≤ 16777216) (hN : X.N.Nodup) (hbk : BlkOk X.N X.env.scope scope own)
    (hi : JI X B S tg iter S1 zs (xs.map Slot.val) ok) (h0 : Le B S1 (Sf s0)) (hok : ∀ s, ok (Sf s)) (hv : ∀ s, AnyAt (Sf s).sl (own.map (·.2))) (hws : ∀ i ∈ ws, i ∈ own.map (·.2))
    (hg : ∀ s x, Blk X scope fun Y => JG Y B (Sf s) tg (.val x) (Sb s x) ws)
    (hb : ∀ s x o s', x ∈ xs → f s x = some (o, s') → ∃ (p : Bool) (St : Stt), (Blk X scope fun Y => JTs Y B (Sb s x) ifs St p) ∧ (p = true → ∃ y Se, o = some y ∧ (Blk X scope fun Y => JE Y B St elt Se (el y)) ∧ Le B Se (Sf s')) ∧ (p = false → o = none ∧ Le B St (Sf s')))
    (hc : X.calm = true := by rfl) (hs : ∀ x, foldedSetIterable iter X.env x = pure x := by intro _; rfl) : JE X B S (.ListComp elt [⟨tg, iter, ifs, 0⟩] scope pos) (Sf sE) (.own (.lst (ys.map el))) := fun T tv σ H Q h q =>
  pe1 (pe_lc (g := (fun v σ H Q => Blk X scope fun Y => tgOf Y tg v σ H Q)) (tt := (fun σ H Q => Blk X scope fun Y => ttsOf Y ifs σ H Q)) (te := (fun σ H Q => Blk X scope fun Y => teOf Y elt σ H Q)) hc hN pi0 hbk (fun s H C cl fp => ⟨fun pins s' σ H' v u Q I r h => (h s H C cl fp).run pins s' u I r⟩) (fun s H C cl fp => ⟨fun pins s' σ H' Q I h => let ⟨_, hp, h'⟩ := h s H C cl fp; hp.run pins s' σ H' Q I h'⟩) (fun s H C cl fp => ⟨fun pins s' σ H' Q I h => (h s H C cl fp).run pins s' I⟩) hs) (lc_t hf hlen hN hbk hi h0 hok hv hws hg hb h q)
theorem js_newLc (j : Nat) {n : Str} {pos2 : Pos} {ι α β : Type} [DecidableEq α] [Datum α] {xs : List α} {f : ι → α → Option (Option β × ι)} {el : β → Slot} {Sf : ι → Stt} {Sb : ι → α → Stt} {s0 sE : ι} {ys : List β} {iter elt : Expr} {ifs : List Expr} {scope : Scope} {own : List (Str × Nat)} {zs : List Slot} {ok : Stt → Prop} {ws : List Nat}
    (hf : cmpM f xs s0 = some (ys, sE)) (hlen : xs.length ≤ 16777216) (hN : X.N.Nodup) (hbk : BlkOk X.N X.env.scope scope own)
    (hi : JI X B S tg iter S1 zs (xs.map Slot.val) ok) (h0 : Le B S1 (Sf s0)) (hok : ∀ s, ok (Sf s)) (hv : ∀ s, AnyAt (Sf s).sl (own.map (·.2))) (hws : ∀ i ∈ ws, i ∈ own.map (·.2))
    (hg : ∀ s x, Blk X scope fun Y => JG Y B (Sf s) tg (.val x) (Sb s x) ws)
    (hb : ∀ s x o s', x ∈ xs → f s x = some (o, s') → ∃ (p : Bool) (St : Stt), (Blk X scope fun Y => JTs Y B (Sb s x) ifs St p) ∧ (p = true → ∃ y Se, o = some y ∧ (Blk X scope fun Y => JE Y B St elt Se (el y)) ∧ Le B Se (Sf s')) ∧ (p = false → o = none ∧ Le B St (Sf s')))
    (k : ∀ p, JS X B ⟨(Sf sE).sl.set j (.v (.ref p)), (Sf sE).cs ++ [(p, .lst (ys.map el))]⟩ rest D) (hc : X.calm = true := by rfl) (hs : ∀ x, foldedSetIterable iter X.env x = pure x := by intro _; rfl) (hj : X.N[j]? = some n := by rfl) (hyl : X.env.scope.names.lookup n = some .local := by rfl) (hsw : swapsWith (.ListComp elt [⟨tg, iter, ifs, 0⟩] scope pos) (some (.Name n pos2)) apos.line X.env = pure true := by rfl) : JS X B S (.Assign [.Name n pos2] (.ListComp elt [⟨tg, iter, ifs, 0⟩] scope pos) apos :: rest) D :=
  js_step (ps_setLc (g := (fun v σ H Q => Blk X scope fun Y => tgOf Y tg v σ H Q)) (tt := (fun σ H Q => Blk X scope fun Y => ttsOf Y ifs σ H Q)) (te := (fun σ H Q => Blk X scope fun Y => teOf Y elt σ H Q)) hc hN hj hyl hsw pi0 hbk (fun s H C cl fp => ⟨fun pins s' σ H' v u Q I r h => (h s H C cl fp).run pins s' u I r⟩) (fun s H C cl fp => ⟨fun pins s' σ H' Q I h => let ⟨_, hp, h'⟩ := h s H C cl fp; hp.run pins s' σ H' Q I h'⟩) (fun s H C cl fp => ⟨fun pins s' σ H' Q I h => (h s H C cl fp).run pins s' I⟩) hs) fun T tv σ H h => lc_t hf hlen hN hbk hi h0 hok hv hws hg hb h fun v H1 h1 => by
    obtain ⟨p, rfl, h2⟩ := h1.name
    exact k p _ _ _ _ (h2.set rfl j)
theorem js_setLc (j : Nat) {n : Str} {pos2 : Pos} {z : Slot} {ι α β : Type} [DecidableEq α] [Datum α] {xs : List α} {f : ι → α → Option (Option β × ι)} {el : β → Slot} {Sf : ι → Stt} {Sb : ι → α → Stt} {s0 sE : ι} {ys : List β} {iter elt : Expr} {ifs : List Expr} {scope : Scope} {own : List (Str × Nat)} {zs : List Slot} {ok : Stt → Prop} {ws : List Nat}
    (hf : cmpM f xs s0 = some (ys, sE)) (hlen : xs.length ≤ 16777216) (hN : X.N.Nodup) (hbk : BlkOk X.N X.env.scope scope own)
    (hi : JI X B S tg iter S1 zs (xs.map Slot.val) ok) (h0 : Le B S1 (Sf s0)) (hok : ∀ s, ok (Sf s)) (hv : ∀ s, AnyAt (Sf s).sl (own.map (·.2))) (hws : ∀ i ∈ ws, i ∈ own.map (·.2))
    (hg : ∀ s x, Blk X scope fun Y => JG Y B (Sf s) tg (.val x) (Sb s x) ws)
    (hb : ∀ s x o s', x ∈ xs → f s x = some (o, s') → ∃ (p : Bool) (St : Stt), (Blk X scope fun Y => JTs Y B (Sb s x) ifs St p) ∧ (p = true → ∃ y Se, o = some y ∧ (Blk X scope fun Y => JE Y B St elt Se (el y)) ∧ Le B Se (Sf s')) ∧ (p = false → o = none ∧ Le B St (Sf s')))
    (hz : ∀ {T : List Slot} {σ : St} {tv : List V} {v : V} {H : Hp}, Sta B (Sf sE) (.own (.lst (ys.map el)) :: T) σ (v :: tv) H → Sta B (Sf sE) (z :: T) σ (v :: tv) H) (k : JS X B ⟨(Sf sE).sl.set j z, (Sf sE).cs⟩ rest D) (hp : z.plain = true := by rfl) (hc : X.calm = true := by rfl) (hs : ∀ x, foldedSetIterable iter X.env x = pure x := by intro _; rfl) (hj : X.N[j]? = some n := by rfl) (hyl : X.env.scope.names.lookup n = some .local := by rfl) (hsw : swapsWith (.ListComp elt [⟨tg, iter, ifs, 0⟩] scope pos) (some (.Name n pos2)) apos.line X.env = pure true := by rfl) : JS X B S (.Assign [.Name n pos2] (.ListComp elt [⟨tg, iter, ifs, 0⟩] scope pos) apos :: rest) D :=
  js_step (ps_setLc (g := (fun v σ H Q => Blk X scope fun Y => tgOf Y tg v σ H Q)) (tt := (fun σ H Q => Blk X scope fun Y => ttsOf Y ifs σ H Q)) (te := (fun σ H Q => Blk X scope fun Y => teOf Y elt σ H Q)) hc hN hj hyl hsw pi0 hbk (fun s H C cl fp => ⟨fun pins s' σ H' v u Q I r h => (h s H C cl fp).run pins s' u I r⟩) (fun s H C cl fp => ⟨fun pins s' σ H' Q I h => let ⟨_, hp, h'⟩ := h s H C cl fp; hp.run pins s' σ H' Q I h'⟩) (fun s H C cl fp => ⟨fun pins s' σ H' Q I h => (h s H C cl fp).run pins s' I⟩) hs) fun T tv σ H h => lc_t hf hlen hN hbk hi h0 hok hv hws hg hb h fun v H1 h1 => k _ _ _ _ ((hz h1).set hp j)
end
end J
namespace J
universe u w
open PySem L2
open PySem.W (Datum DatumOrd Holds HoldAll T3 T4)
/-! ### cells handed over, and back -/
inductive Pk : List (Addr × Cel) → List (Addr × Cel) → List (Addr × Cel) → Prop where
  | nil {cs : List (Addr × Cel)} : Pk cs [] cs
  | cons (i : Nat) {cs ds cs' : List (Addr × Cel)} {p : Addr} {c : Cel} : cs[i]? = some (p, c) → c ≠ .gone → Pk (cs.set i (p, .gone)) ds cs' → Pk cs ((p, c) :: ds) cs'
inductive Pt : List (Addr × Cel) → List (Addr × Cel) → List (Addr × Cel) → Prop where
  | nil {cs : List (Addr × Cel)} : Pt cs [] cs
  | cons (i : Nat) {cs ds cs' : List (Addr × Cel)} {p q : Addr} {c : Cel} : cs[i]? = some (q, .gone) → Pt (cs.set i (p, c)) ds cs' → Pt cs ((p, c) :: ds) cs'
section
variable {G H : Hp}
theorem CsI.takes : ∀ {cs ds cs' : List (Addr × Cel)} {bs : List Addr}, Pk cs ds cs' → CsI G H cs bs → ∃ b1 b2, CsI G H ds b1 ∧ CsI G H cs' b2 ∧ (b1 ++ b2).Perm bs
  | _, _, _, bs, .nil, h => ⟨[], bs, .nil, h, List.Perm.refl _⟩
  | _, _, _, _, .cons (p := p) i hi hg hk, h => by
    obtain ⟨l, o, m, r, rfl, hp, hc, reb⟩ := h.at i hi hg
    obtain ⟨b1, b2, h1, h2, pm⟩ := CsI.takes hk ((reb (Ex.refl G) fun _ _ => rfl).2 _)
    refine ⟨_, b2, .cons hp hc h1, h2, ?_⟩
    have e1 : ((p :: (m ++ b1)) ++ b2).Perm ((p :: m) ++ (b1 ++ b2)) := by
      rw [List.cons_append, List.append_assoc]
      exact List.Perm.refl _
    have e2 := List.Perm.append_left (p :: m) pm
    have e3 : ((p :: m) ++ (l ++ r)).Perm (l ++ (p :: m) ++ r) := by
      rw [← List.append_assoc]
      exact List.Perm.append_right _ List.perm_append_comm
    exact e1.trans (e2.trans e3)
theorem CsI.put1 : ∀ {cs : List (Addr × Cel)} {bs : List Addr} (i : Nat) {p q : Addr} {c : Cel} {o : HO} {m : List Addr}, CsI G H cs bs → cs[i]? = some (q, .gone) → H p = some o → CeI G H c o m → ∃ b, CsI G H (cs.set i (p, c)) b ∧ b.Perm ((p :: m) ++ bs)
  | [], _, _, _, _, _, _, _, _, e, _, _ => by simp at e
  | (q0, c0) :: cs, bs, 0, p, q, c, o, m, h, e, hp, hc => by
    have e1 := Option.some.inj (show some (q0, c0) = some (q, Cel.gone) from e)
    cases e1
    cases h with
    | gone h => exact ⟨_, .cons hp hc h, List.Perm.refl _⟩
    | cons _ hc' _ => cases hc'
  | (q0, c0) :: cs, bs, i + 1, p, q, c, o, m, h, e, hp, hc => by
    have e1 : cs[i]? = some (q, Cel.gone) := e
    cases h with
    | gone h =>
      obtain ⟨b, h1, pm⟩ := CsI.put1 i h e1 hp hc
      exact ⟨b, .gone h1, pm⟩
    | @cons _ _ o1 as _ bs hp1 hc1 h =>
      obtain ⟨b, h1, pm⟩ := CsI.put1 i h e1 hp hc
      refine ⟨_, .cons hp1 hc1 h1, ?_⟩
      have e2 : (q0 :: (as ++ b)).Perm ((q0 :: as) ++ ((p :: m) ++ bs)) := List.Perm.append_left (q0 :: as) pm
      refine e2.trans ?_
      have e3 : ((q0 :: as) ++ ((p :: m) ++ bs)).Perm ((p :: m) ++ ((q0 :: as) ++ bs)) := by
        rw [← List.append_assoc, ← List.append_assoc]
        exact List.Perm.append_right _ List.perm_append_comm
      exact e3
theorem CsI.puts : ∀ {cs ds cs' : List (Addr × Cel)} {b1 b2 : List Addr}, Pt cs ds cs' → CsI G H cs b2 → CsI G H ds b1 → ∃ b, CsI G H cs' b ∧ b.Perm (b1 ++ b2)
  | _, _, _, _, b2, .nil, h, hd => by cases hd; exact ⟨b2, h, List.Perm.refl _⟩
  | _, _, _, _, b2, .cons (c := c) i hi hk, h, hd => by
    cases hd with
    | gone hd =>
      -- a hole is put back as a hole
      have e : ∀ {cs : List (Addr × Cel)} {bs : List Addr} (i : Nat) {p q : Addr}, CsI G H cs bs → cs[i]? = some (q, .gone) → CsI G H (cs.set i (p, .gone)) bs := fun {cs bs} => by
        induction cs generalizing bs with
        | nil => intro i p q _ e; simp at e
        | cons a cs ih =>
          intro i p q h e
          cases i with
          | zero =>
            have e1 := Option.some.inj (show some a = some (q, Cel.gone) from e)
            subst e1
            cases h with
            | gone h => exact .gone h
            | cons _ hc _ => cases hc
          | succ i =>
            cases h with
            | gone h => exact .gone (ih i h e)
            | cons h1 h2 h => exact .cons h1 h2 (ih i h e)
      exact CsI.puts hk (e i h hi) hd
    | @cons p _ o m _ bs hp hc hd =>
      obtain ⟨b, h1, pm⟩ := CsI.put1 i h hi hp hc
      obtain ⟨b', h2, pm2⟩ := CsI.puts hk h1 hd
      refine ⟨b', h2, pm2.trans ?_⟩
      have e1 := List.Perm.append_left bs pm
      refine e1.trans ?_
      rw [← List.append_assoc]
      refine List.Perm.append_right _ ?_
      exact List.perm_append_comm
end
/-- the promise of a def: for each g that meets pre, arguments and cells; handed back: res, the cells -/
structure FS (γ : Type) : Type 1 where
  pre : γ → Prop := fun _ => True
  preG : γ → Hp → Prop := fun _ _ => True
  args : γ → List Slot
  cells : γ → List (Addr × Cel) := fun _ => []
  res : γ → Slot
  cells' : γ → List (Addr × Cel) := fun _ => []
def FS.sp {γ : Type} (f : FS γ) : Sp := fun vs H Q _ => ∃ (g : γ) (B : Base), f.pre g ∧ f.preG g B.G ∧ Sta B ⟨[], f.cells g⟩ (f.args g) [] vs H ∧ ∀ v H', Out B (f.res g) (f.cells' g) v H' → Q v H'
/-- from a state: the def's promise may be asked -/
theorem sp_of {γ : Type} (f : FS γ) {B : Base} {S : Stt} {xs T : List Slot} {σ : St} {vs tv : List V} {H : Hp} {cs1 cs2 : List (Addr × Cel)} {Q : VK} {E : XK} (g : γ) (hpre : f.pre g) (hG : ∀ G', Ex B.G G' → f.preG g G') (ha : f.args g = xs) (hl : vs.length = xs.length) (hk : Pk S.cs (f.cells g) cs1) (hb : Pt cs1 (f.cells' g) cs2)
    (hs : Sta B S (xs ++ T) σ (vs ++ tv) H) (q : ∀ w H', Sta B ⟨S.sl, cs2⟩ (f.res g :: T) σ (w :: tv) H' → Q w H') : f.sp vs H Q E := by
  obtain ⟨G, as, bs, z⟩ := hs
  obtain ⟨a1, a2, rfl, g1, z'⟩ := z.split hl.symm
  obtain ⟨b1, b2, c1, c2, pm⟩ := CsI.takes hk z.cel
  have nd : (a1 ++ a2 ++ (b1 ++ b2)).Nodup := (List.Perm.append_left _ pm).nodup_iff.mpr z.nod
  have pm2 : ((a1 ++ b1) ++ (a2 ++ b2)).Perm (a1 ++ a2 ++ (b1 ++ b2)) := by
    rw [List.append_assoc, List.append_assoc]
    refine List.Perm.append_left _ ?_
    rw [← List.append_assoc, ← List.append_assoc]
    exact List.Perm.append_right _ List.perm_append_comm
  have nd2 := pm2.nodup_iff.mpr nd
  have fr : ∀ a ∈ (a1 ++ b1) ++ (a2 ++ b2), G a = none ∧ B.F a = none := fun a ha => z.fre a ((List.Perm.append_left _ pm).mem_iff.mp (pm2.mem_iff.mp ha))
  have dis := (List.nodup_append.mp nd2).2.2
  have nt2 : ∀ a ∈ a2 ++ b2, ∃ o, H a = some o ∧ NT o := fun a ha => (List.mem_append.mp ha).elim (fun h => z'.tmp.nt a h) fun h => c2.nt a h
  have def2 : ∀ a ∈ a2 ++ b2, ∃ o, H a = some o := fun a ha => (List.mem_append.mp ha).elim (fun h => z'.tmp.def a h) fun h => c2.def a h
  refine ⟨g, ⟨G, fun a => if a ∈ a2 ++ b2 then H a else B.F a⟩, hpre, hG G z.gro, ?_, fun v H' ho => ?_⟩
  · rw [ha]
    refine ⟨G, a1, b1, g1, c1, ⟨rfl, fun i s hs => by simp at hs⟩, (List.nodup_append.mp nd2).1, fun a ha => ⟨(fr a (List.mem_append_left _ ha)).1, ?_⟩, Ex.refl G, fun a o h => .inl h, z.sub, fun a o h => ?_⟩
    · show (if a ∈ a2 ++ b2 then H a else B.F a) = none
      rw [if_neg (fun h => dis a ha a h rfl)]
      exact (fr a (List.mem_append_left _ ha)).2
    · have h' : (if a ∈ a2 ++ b2 then H a else B.F a) = some o := h
      by_cases hm : a ∈ a2 ++ b2
      · rw [if_pos hm] at h'; exact h'
      · rw [if_neg hm] at h'; exact z.frm a o h'
  · obtain ⟨G', as', bs', y⟩ := ho
    have keep : ∀ a ∈ a2 ++ b2, H' a = H a := fun a ha => by
      obtain ⟨o, e⟩ := def2 a ha
      rw [e]
      exact y.frm a o (show (if a ∈ a2 ++ b2 then H a else B.F a) = some o by rw [if_pos ha]; exact e)
    have eg : Ex G G' := y.gro
    have y1 := y.tmp
    cases y1 with
    | @cons _ _ r1 _ _ r2 s1 s2 =>
      cases s2
      have y1' : SsI G' H' (f.res g :: T) (v :: tv) (r1 ++ a2) := .cons s1 (z'.tmp.mono eg fun a ha => keep a (List.mem_append_left _ ha))
      obtain ⟨b, cb, pb⟩ := CsI.puts hb (c2.mono eg fun a ha => keep a (List.mem_append_right _ ha)) y.cel
      have own' : ∀ a ∈ r1 ++ [] ++ bs', G' a = none ∧ a ∉ a2 ++ b2 ∧ B.F a = none := fun a ha => by
        obtain ⟨h1, h2⟩ := y.fre a ha
        have h2' : (if a ∈ a2 ++ b2 then H a else B.F a) = none := h2
        by_cases hm : a ∈ a2 ++ b2
        · rw [if_pos hm] at h2'
          obtain ⟨o, e⟩ := def2 a hm
          rw [e] at h2'
          cases h2'
        · rw [if_neg hm] at h2'
          exact ⟨h1, hm, h2'⟩
      have old' : ∀ a ∈ a2 ++ b2, G' a = none ∧ B.F a = none := fun a ha => by
        have f2 := fr a (List.mem_append_right _ ha)
        refine ⟨?_, f2.2⟩
        cases hq : G' a with
        | none => rfl
        | some o =>
          rcases y.new a o hq with h | h | ⟨xs, rfl⟩
          · have h' : G a = some o := h
            rw [f2.1] at h'
            cases h'
          · have h' : (if a ∈ a2 ++ b2 then H a else B.F a) = none := h
            rw [if_pos ha] at h'
            obtain ⟨o', e⟩ := def2 a ha
            rw [e] at h'
            cases h'
          · obtain ⟨o', e, n⟩ := nt2 a ha
            have h1 := y.sub a _ hq
            rw [keep a ha, e] at h1
            cases h1
            exact absurd rfl (n xs)
      have pm3 : (r1 ++ a2 ++ b).Perm ((r1 ++ [] ++ bs') ++ (a2 ++ b2)) := by
        have e1 := List.Perm.append_left (r1 ++ a2) pb
        refine e1.trans ?_
        rw [List.append_nil, List.append_assoc, List.append_assoc]
        refine List.Perm.append_left _ ?_
        rw [← List.append_assoc, ← List.append_assoc]
        exact List.Perm.append_right _ List.perm_append_comm
      have nd3 : (r1 ++ a2 ++ b).Nodup := pm3.nodup_iff.mpr (List.nodup_append.mpr ⟨y.nod, (List.nodup_append.mp nd2).2.1, fun a ha c hc e => (own' a ha).2.1 (e ▸ hc)⟩)
      refine q v H' ⟨G', r1 ++ a2, b, y1', cb, z.slo.mono eg, nd3, fun a ha => ?_, z.gro.trans eg, fun a o h => ?_, y.sub, fun a o h => ?_⟩
      · rcases List.mem_append.mp (pm3.mem_iff.mp ha) with h | h
        · exact ⟨(own' a h).1, (own' a h).2.2⟩
        · exact old' a h
      · rcases y.new a o h with h2 | h2 | h2
        · exact z.new a o h2
        · have h' : (if a ∈ a2 ++ b2 then H a else B.F a) = none := h2
          by_cases hm : a ∈ a2 ++ b2
          · rw [if_pos hm] at h'
            obtain ⟨o', e⟩ := def2 a hm
            rw [e] at h'
            cases h'
          · rw [if_neg hm] at h'
            exact .inr (.inl h')
        · exact .inr (.inr h2)
      · refine y.frm a o ?_
        show (if a ∈ a2 ++ b2 then H a else B.F a) = some o
        by_cases hm : a ∈ a2 ++ b2
        · rw [(fr a (List.mem_append_right _ hm)).2] at h
          cases h
        · rw [if_neg hm]
          exact h
section
variable {X : Cx} {B : Base} {S S1 S2 S3 : Stt} {x y z : Slot} {a b e o : Expr} {es : List Expr} {pos apos : Pos} {D : FE} {rest : List Stmt} {k : Nat} {tg : Expr}
/-- f(e, ..), a def of the text -/
theorem je_call {γ : Type} {f : FS γ} {fa : Addr} {fd : FuncData} {ps : List Str} {n : Str} {p : Pos} {xs : List Slot} {cs1 cs2 : List (Addr × Cel)} (F : FnOk X.prog X.w X.K X.mg X.base CX0 k fa fd ps f.sp) {lv : Nat} (hr : Room lv X.A) (hlv : k ≤ lv) (hm : X.mg n = some (.ref fa)) (hk : PySem.W.keepIn X.K (.ref fa) = true) (hb : Binds X.K fd ps [])
    (ha : JA X B S (e :: es) S1 xs) (g : γ) (hpre : f.pre g) (hx : f.args g = xs) (hpk : Pk S1.cs (f.cells g) cs1) (hpt : Pt cs1 (f.cells' g) cs2) (hG : ∀ G', Ex B.G G' → f.preG g G' := by exact fun _ _ => trivial) (hg : Gl X n := by rfl) (hdb : (n == ("__debug__" : Str)) = false := by decide) (he : starEach (e :: es) X.env = (false, eval e X.env) :: starEach es X.env := by rfl) (hpl : (backTo pos (starEach es X.env)).any (·.1) = false := by rfl) :
    JE X B S (.Call (.Name n p) (e :: es) [] pos) ⟨S1.sl, cs2⟩ (f.res g) := fun T tv σ H Q h q =>
  pe1 (pe_call F (hr.mono hlv) hg hm hk hb .nil pass0 pa0 hdb he hpl) (ha _ _ _ _ _ h fun vs H1 hl h1 => by
    rw [List.append_nil]
    exact sp_of f g hpre hG hx hl hpk hpt h1 q)
theorem SsI.slots {G H : Hp} : ∀ {ss : List Slot} {vs : List V} {as : List Addr}, SsI G H ss vs as → (∀ s ∈ ss, s.plain = true) → ∀ (i : Nat) s, ss[i]? = some s → ∃ u, vs[i]? = some u ∧ SlOk G s (some u)
  | _, _, _, .nil, _, i, s, h => by simp at h
  | _, _, _, .cons (u := u) h1 h2, hp, 0, s, h => by
    have e := Option.some.inj (show some _ = some s from h)
    subst e
    exact ⟨u, rfl, h1.ok (hp _ List.mem_cons_self)⟩
  | _, _, _, .cons h1 h2, hp, i + 1, s, h => SsI.slots h2 (fun s hs => hp s (List.mem_cons_of_mem _ hs)) i s h
theorem Sta.enter {xs : List Slot} {vs : List V} {H : Hp} {cs : List (Addr × Cel)} {N : List Str} (h : Sta B ⟨[], cs⟩ xs [] vs H) (hp : ∀ s ∈ xs, s.plain = true) : Sta B ⟨xs ++ List.replicate (N.length - xs.length) .any, cs⟩ [] (start N vs) [] H := by
  obtain ⟨G, as, bs, z⟩ := h
  have hl := z.tmp.len
  have e := z.tmp.plain hp
  subst e
  refine ⟨G, [], bs, .nil, z.cel, ⟨?_, fun i s hs => ?_⟩, z.nod, z.fre, z.gro, z.new, z.sub, z.frm⟩
  · show (xs ++ List.replicate (N.length - xs.length) Slot.any).length = (vs.map some ++ List.replicate (N.length - vs.length) none).length
    rw [List.length_append, List.length_append, List.length_map, List.length_replicate, List.length_replicate, hl]
  · show ∃ o, (vs.map some ++ List.replicate (N.length - vs.length) none)[i]? = some o ∧ SlOk G s o
    by_cases hi : i < xs.length
    · rw [List.getElem?_append_left hi] at hs
      obtain ⟨u, h1, h2⟩ := z.tmp.slots hp i s hs
      exact ⟨some u, by rw [List.getElem?_append_left (by rw [List.length_map]; omega), List.getElem?_map, h1] <;> rfl, h2⟩
    · rw [List.getElem?_append_right (by omega), List.getElem?_replicate] at hs
      split at hs
      · cases hs
        refine ⟨none, ?_, trivial⟩
        rw [List.getElem?_append_right (by rw [List.length_map]; omega), List.getElem?_replicate, List.length_map, if_pos (by omega)]
      · cases hs
theorem tb_mono {st : List Stmt} {D D' : Ends} {σ : St} {H : Hp} (h : tbOf X st D σ H) (h1 : ∀ σ H, D.nx σ H → D'.nx σ H) (h2 : ∀ v H, D.rt v H → D'.rt v H) (h3 : ∀ σ H, D.bk σ H → D'.bk σ H) (h4 : ∀ σ H, D.ct σ H → D'.ct σ H) : tbOf X st D' σ H := ⟨fun pins s I => thn (h.run pins s I) fun f s1 q => by
  cases f with
  | next => obtain ⟨σ', H', I', q⟩ := q; exact ⟨σ', H', I', h1 _ _ q⟩
  | brk => obtain ⟨σ', H', I', q⟩ := q; exact ⟨σ', H', I', h3 _ _ q⟩
  | cont => obtain ⟨σ', H', I', q⟩ := q; exact ⟨σ', H', I', h4 _ _ q⟩
  | ret u => obtain ⟨v, σ', H', I', r, q⟩ := q; exact ⟨v, σ', H', I', r, h2 _ _ q⟩⟩
/-- what a body is to reach -/
abbrev fend {γ : Type} (B : Base) (f : FS γ) (g : γ) : FE := { nx := fun T tv σ H => Out B (f.res g) (f.cells' g) .non H, rt := Out B (f.res g) (f.cells' g) }
abbrev fctx (P : Program) (w : World) (K : PySem.W.Frag) (mg : Str → Option Value) (base : Heap) (N : List Str) (qual : Str) (sc : Scope) (fa : Addr) (cdv : Value) (A : Around) (outer : List Env) (s : Shared) (H : Hp) (E : XK) : Cx := (cxOf CX0 P w K mg base N qual sc fa cdv A outer s H E).nox
end
end J
namespace J
universe u w
open PySem L2
open PySem.W (Datum DatumOrd Holds HoldAll T3 T4)
/-! ### the mirror's guards -/
def mulG (i j : Int) : Option Int := if ((-(18446744073709551616) < i ∧ i < 18446744073709551616) ∨ (-(18446744073709551616) < j ∧ j < 18446744073709551616)) then some (i * j) else none
def divG (i j : Int) : Option Int := if 0 < j ∧ j < 18446744073709551616 then some (i / j) else none
def modG (i j : Int) : Option Int := if 0 < j then some (i % j) else none
def powG (i : Int) (n : Nat) : Option Int := if i.natAbs < 18446744073709551616 then some (i ^ n) else none
def orM (p : Bool) (m : Option Bool) : Option Bool := if p = true then some true else m
def ifM {α : Type} (p : Bool) (m n : Option α) : Option α := if p = true then m else n
theorem ifT {α : Type} {p : Bool} {a b c : α} (hp : p = true) (h : (if p = true then a else b) = c) : a = c := by rw [if_pos hp] at h; exact h
theorem ifF {α : Type} {p : Bool} {a b c : α} (hp : p = false) (h : (if p = true then a else b) = c) : b = c := by rw [if_neg (by rw [hp]; decide)] at h; exact h
/-! dicts with literal or typed keys -/
section
variable {G H : Hp}
/-! ### a part of a thing: with a name of its own, or owned by the thing -/
def Cel.nth : Cel → Nat → Option Slot
  | .lst ss, j => ss[j]?
  | .ins _ fs, j => (fs[j]?).map (·.2)
  | .dk _ ss, j => ss[j]?
  | .fdk _ _ ss, j => ss[j]?
  | .gone, _ => none
  | .say _, _ => none
def setF2 {α β : Type _} (fs : List (α × β)) (j : Nat) (y : β) : List (α × β) := match fs, j with
  | [], _ => []
  | (a, _) :: r, 0 => (a, y) :: r
  | p :: r, j + 1 => p :: setF2 r j y
def Cel.sub : Cel → Nat → Slot → Cel
  | .lst ss, j, y => .lst (ss.set j y)
  | .ins C fs, j, y => .ins C (setF2 fs j y)
  | .dk ks ss, j, y => .dk ks (ss.set j y)
  | .fdk o ks ss, j, y => .fdk o ks (ss.set j y)
  | .gone, _, _ => .gone
  | .say ψ, _, _ => .say ψ
theorem setF2_snd {α β : Type _} : ∀ (fs : List (α × β)) (j : Nat) (y : β), (setF2 fs j y).map (·.2) = (fs.map (·.2)).set j y
  | [], _, _ => by simp [setF2]
  | (a, b) :: r, 0, y => rfl
  | p :: r, j + 1, y => by
    show p.2 :: (setF2 r j y).map (·.2) = p.2 :: (r.map (·.2)).set j y
    rw [setF2_snd r j y]
theorem setF2_fst {α β : Type _} : ∀ (fs : List (α × β)) (j : Nat) (y : β), (setF2 fs j y).map (·.1) = fs.map (·.1)
  | [], _, _ => by simp [setF2]
  | (a, b) :: r, 0, y => rfl
  | p :: r, j + 1, y => by
    show p.1 :: (setF2 r j y).map (·.1) = p.1 :: r.map (·.1)
    rw [setF2_fst r j y]
/-- the j-th slot taken out of a row, another one put in -/
theorem SsI.part : ∀ {ss : List Slot} {vs : List V} {as : List Addr} (j : Nat) {s : Slot}, SsI G H ss vs as → ss[j]? = some s → ∃ a1 u m a2, as = a1 ++ m ++ a2 ∧ vs[j]? = some u ∧ SlI G H s u m ∧ ∀ {s' m'}, SlI G H s' u m' → SsI G H (ss.set j s') vs (a1 ++ m' ++ a2)
  | [], _, _, _, _, _, e => by simp at e
  | s0 :: ss, vs, as, 0, s, h, e => by
    have e1 := Option.some.inj (show some s0 = some s from e)
    subst e1
    cases h with
    | @cons _ u m _ vs a2 h1 h2 => exact ⟨[], u, m, a2, rfl, rfl, h1, fun h' => .cons h' h2⟩
  | s0 :: ss, vs, as, j + 1, s, h, e => by
    cases h with
    | @cons _ u0 m0 _ vs a0 h1 h2 =>
      obtain ⟨a1, u, m, a2, rfl, hu, hs, reb⟩ := SsI.part (ss := ss) j h2 (show ss[j]? = some s from e)
      refine ⟨m0 ++ a1, u, m, a2, by simp only [List.append_assoc], hu, hs, fun {s' m'} h' => ?_⟩
      have := SsI.cons h1 (reb h')
      simpa only [List.append_assoc, List.set_cons_succ] using this
theorem CeI.part {c : Cel} {o : HO} {as : List Addr} (h : CeI G H c o as) (j : Nat) {s : Slot} (e : c.nth j = some s) : ∃ a1 u m a2, as = a1 ++ m ++ a2 ∧ SlI G H s u m ∧ ∀ {s' m'}, SlI G H s' u m' → CeI G H (c.sub j s') o (a1 ++ m' ++ a2) := by
  cases h with
  | lst h =>
    obtain ⟨a1, u, m, a2, rfl, _, hs, reb⟩ := h.part j e
    exact ⟨a1, u, m, a2, rfl, hs, fun h' => .lst (reb h')⟩
  | @ins C dx fs gs as h1 h =>
    have e' : (fs.map (·.2))[j]? = some s := by rw [List.getElem?_map]; exact e
    obtain ⟨a1, u, m, a2, rfl, _, hs, reb⟩ := h.part j e'
    refine ⟨a1, u, m, a2, rfl, hs, fun h' => .ins (by rw [setF2_fst]; exact h1) ?_⟩
    rw [setF2_snd]
    exact reb h'
  | dk h1 h =>
    obtain ⟨a1, u, m, a2, rfl, _, hs, reb⟩ := h.part j e
    exact ⟨a1, u, m, a2, rfl, hs, fun h' => .dk h1 (reb h')⟩
  | fdk h =>
    obtain ⟨a1, u, m, a2, rfl, _, hs, reb⟩ := h.part j e
    exact ⟨a1, u, m, a2, rfl, hs, fun h' => .fdk (reb h')⟩
  | say m h => cases e
end
section
variable {X : Cx} {B : Base} {S S1 S2 S3 : Stt} {x y z : Slot} {a b e o : Expr} {es : List Expr} {pos apos : Pos} {D : FE} {rest : List Stmt} {kk : Nat} {tg : Expr}
/-- the j-th part of the k-th cell gets a name -/
theorem js_open (k j : Nat) {p : Addr} {c d : Cel} (hk : S.cs[k]? = some (p, c)) (hj : c.nth j = some (.own d)) (h : ∀ q, JS X B ⟨S.sl, S.cs.set k (p, c.sub j (.v (.ref q))) ++ [(q, d)]⟩ rest D) : JS X B S rest D := fun T tv σ H hs => by
  obtain ⟨G, as, bs, z⟩ := hs
  have hg : c ≠ .gone := by intro e; subst e; cases hj
  obtain ⟨l, o, m, r, rfl, hp, hc, reb⟩ := z.cel.at k hk hg
  obtain ⟨a1, u, m1, a2, rfl, hs1, reb2⟩ := hc.part j hj
  cases hs1 with
  | @own _ q od mq hq hd =>
    have c2 := (reb (Ex.refl G) fun _ _ => rfl).1 hp (reb2 (.v : SlI G H (.v (.ref q)) (.ref q) []))
    have c3 := c2.app (.cons hq hd .nil)
    have pm : (l ++ p :: (a1 ++ [] ++ a2) ++ r ++ (q :: (mq ++ []))).Perm (l ++ p :: (a1 ++ q :: mq ++ a2) ++ r) := by
      simp only [List.append_nil, List.append_assoc, List.cons_append]
      refine List.Perm.append_left l (List.Perm.cons p (List.Perm.append_left a1 ?_))
      have e1 : ((a2 ++ r) ++ (q :: mq)).Perm ((q :: mq) ++ (a2 ++ r)) := List.perm_append_comm
      simpa only [List.append_assoc, List.cons_append] using e1
    have pm2 := List.Perm.append_left as pm
    exact h q T tv σ H ⟨G, as, _, z.tmp, c3, z.slo, pm2.nodup_iff.mpr z.nod, fun a ha => z.fre a (pm2.mem_iff.mp ha), z.gro, z.new, z.sub, z.frm⟩
/-- a name's thing, as a temporary one of its own -/
theorem Sta.own {T : List Slot} {σ : St} {tv : List V} {H : Hp} {p : Addr} {v : V} {c : Cel} (h : Sta B S (.v (.ref p) :: T) σ (v :: tv) H) (k : Nat) (hk : S.cs[k]? = some (p, c)) (hg : c ≠ .gone) : Sta B ⟨S.sl, S.cs.set k (p, .gone)⟩ (.own c :: T) σ (v :: tv) H := by
  have ev := h.exact
  subst ev
  obtain ⟨G, as, bs, z⟩ := h
  obtain ⟨a1, a2, rfl, g, z'⟩ := z.pop
  cases g with
  | v =>
    obtain ⟨l, o, m, r, rfl, hp, hc, reb⟩ := z.cel.at k hk hg
    have pm : ((p :: m) ++ a2 ++ (l ++ r)).Perm (([] ++ a2) ++ (l ++ p :: m ++ r)) := by
      rw [List.nil_append]
      have e1 : (a2 ++ (l ++ p :: m ++ r)).Perm (a2 ++ ((p :: m) ++ (l ++ r))) := List.Perm.append_left _ (by
        rw [← List.append_assoc]
        exact List.Perm.append_right _ List.perm_append_comm)
      have e2 : (a2 ++ ((p :: m) ++ (l ++ r))).Perm ((p :: m) ++ a2 ++ (l ++ r)) := by
        rw [← List.append_assoc]
        exact List.Perm.append_right _ List.perm_append_comm
      exact (e1.trans e2).symm
    exact ⟨G, (p :: m) ++ a2, l ++ r, .cons (.own hp hc) z'.tmp, (reb (Ex.refl G) fun _ _ => rfl).2 p, z.slo, pm.nodup_iff.mpr z.nod, fun a ha => z.fre a (pm.mem_iff.mp ha), z.gro, z.new, z.sub, z.frm⟩
theorem je_own (k : Nat) {p : Addr} {c : Cel} (h : JE X B S e S1 (.v (.ref p))) (hk : S1.cs[k]? = some (p, c)) (hg : c ≠ .gone := by nofun) : JE X B S e ⟨S1.sl, S1.cs.set k (p, .gone)⟩ (.own c) := fun T tv σ H Q hs q => h _ _ _ _ _ hs fun v H' g => q v H' (g.own k hk hg)
/-- the j-th part of a temporary thing is the k-th cell's: it is taken in -/
theorem Sta.fold {T : List Slot} {σ : St} {tv : List V} {H : Hp} {q : Addr} {v : V} {c d : Cel} (h : Sta B S (.own c :: T) σ (v :: tv) H) (k j : Nat) (hj : c.nth j = some (.v (.ref q))) (hk : S.cs[k]? = some (q, d)) (hg : d ≠ .gone) : Sta B ⟨S.sl, S.cs.set k (q, .gone)⟩ (.own (c.sub j (.own d)) :: T) σ (v :: tv) H := by
  obtain ⟨G, as, bs, z⟩ := h
  obtain ⟨a1, a2, rfl, g, z'⟩ := z.pop
  cases g with
  | @own _ p o m hp hc =>
    obtain ⟨l, od, md, r, rfl, hq, hd, reb⟩ := z.cel.at k hk hg
    obtain ⟨b1, u, m1, b2, rfl, hs1, reb2⟩ := hc.part j hj
    cases hs1 with
    | v =>
      have c2 := reb2 (.own hq hd)
      have pm : ((p :: (b1 ++ (q :: md) ++ b2)) ++ a2 ++ (l ++ r)).Perm ((p :: (b1 ++ [] ++ b2)) ++ a2 ++ (l ++ (q :: md) ++ r)) := by
        rw [List.append_nil]
        have e1 : ((p :: (b1 ++ (q :: md) ++ b2)) ++ a2 ++ (l ++ r)).Perm ((q :: md) ++ ((p :: (b1 ++ b2)) ++ a2 ++ (l ++ r))) := by
          have f1 : (p :: (b1 ++ (q :: md) ++ b2)).Perm ((q :: md) ++ (p :: (b1 ++ b2))) := by
            have g1 : (b1 ++ (q :: md) ++ b2).Perm ((q :: md) ++ (b1 ++ b2)) := by
              rw [← List.append_assoc]
              exact List.Perm.append_right _ List.perm_append_comm
            have g2 : (p :: ((q :: md) ++ (b1 ++ b2))).Perm ((q :: md) ++ (p :: (b1 ++ b2))) := List.perm_middle.symm
            exact (List.Perm.cons p g1).trans g2
          have f2 := List.Perm.append_right (l ++ r) (List.Perm.append_right a2 f1)
          rw [List.append_assoc (q :: md), List.append_assoc (q :: md)] at f2
          exact f2
        refine e1.trans ?_
        have e2 : (l ++ (q :: md) ++ r).Perm ((q :: md) ++ (l ++ r)) := by
          rw [← List.append_assoc]
          exact List.Perm.append_right _ List.perm_append_comm
        have e3 := List.Perm.append_left ((p :: (b1 ++ b2)) ++ a2) e2
        refine List.Perm.trans ?_ e3.symm
        rw [← List.append_assoc, ← List.append_assoc ((p :: (b1 ++ b2)) ++ a2)]
        exact List.Perm.append_right _ List.perm_append_comm
      exact ⟨G, _, l ++ r, .cons (.own hp c2) z'.tmp, (reb (Ex.refl G) fun _ _ => rfl).2 q, z.slo, pm.nodup_iff.mpr z.nod, fun a ha => z.fre a (pm.mem_iff.mp ha), z.gro, z.new, z.sub, z.frm⟩
theorem je_fold (k j : Nat) {q : Addr} {c d : Cel} (h : JE X B S e S1 (.own c)) (hj : c.nth j = some (.v (.ref q))) (hk : S1.cs[k]? = some (q, d)) (hg : d ≠ .gone := by nofun) : JE X B S e ⟨S1.sl, S1.cs.set k (q, .gone)⟩ (.own (c.sub j (.own d))) := fun T tv σ H Q hs q' => h _ _ _ _ _ hs fun v H' g => q' v H' (g.fold k j hj hk hg)
/-! ### impure parts of tests, guarded operators -/
section
variable {i j r : Int} {p q : Bool} {m m2 : Option Bool} {rs : List Expr}
theorem je_mulG (ha : JE X B S a S1 (.val i)) (hb : JE X B S1 b S2 (.val j)) (h : mulG i j = some r) : JE X B S (.BinOp a .Mult b pos) S2 (.val r) := by
  unfold mulG at h
  split at h
  · cases h
    exact je_mul ha hb (by assumption)
  · cases h
theorem je_divG (ha : JE X B S a S1 (.val i)) (hb : JE X B S1 b S2 (.val j)) (h : divG i j = some r) : JE X B S (.BinOp a .FloorDiv b pos) S2 (.val r) := by
  unfold divG at h
  split at h
  · cases h
    exact je_div ha hb (by assumption)
  · cases h
theorem je_modG (ha : JE X B S a S1 (.val i)) (hb : JE X B S1 b S2 (.val j)) (h : modG i j = some r) : JE X B S (.BinOp a .Mod b pos) S2 (.val r) := by
  unfold modG at h
  split at h
  · cases h
    exact je_mod ha hb (by assumption)
  · cases h
theorem je_powG (n : Nat) (ha : JE X B S a S1 (.val i)) (hb : JE X B S1 b S2 (.val (n : Int))) (hn : n ≤ 1000000) (h : powG i n = some r) : JE X B S (.BinOp a .Pow b pos) S2 (.val r) := by
  unfold powG at h
  split at h
  · cases h
    exact je_pow ha hb hn (by assumption)
  · cases h
theorem jw_orM (he : orM p m = some q) (h : JT X B S a S1 p) (h2 : p = false → ∀ r, m = some r → JW X B S1 (.BoolOp .Or (b :: rs) pos) S1 r) : JW X B S (.BoolOp .Or (a :: b :: rs) pos) S1 q := by
  unfold orM at he
  cases p with
  | false =>
    rw [if_neg (by decide)] at he
    have := jw_or (q := q) h fun _ => h2 rfl q he
    rwa [Bool.false_or] at this
  | true =>
    rw [if_pos rfl] at he
    cases he
    have := jw_or (b := b) (rest := rs) (pos := pos) (q := true) h (fun e => nomatch e)
    rwa [Bool.or_true] at this
end
/-! ### lists made of others -/
/-- xs + ys, lists that stand in the heap -/
theorem je_cat {s1 s2 : List Slot} (ha : JE X B S a S1 x) (hb : JE X B S1 b S2 y) (h1 : ∀ {T σ v tv H G as bs}, St0 B S2 (x :: T) σ (v :: tv) H G as bs → ∃ p vs, v = .ref p ∧ H p = some (.lst vs) ∧ SsI G H s1 vs []) (h2 : ∀ {T σ v tv H G as bs}, St0 B S2 (y :: T) σ (v :: tv) H G as bs → ∃ p vs, v = .ref p ∧ H p = some (.lst vs) ∧ SsI G H s2 vs []) (hl : s1.length + s2.length ≤ 16777216) : JE X B S (.BinOp a .Add b pos) S2 (.own (.lst (s1 ++ s2))) :=
  je_op op_cat ha hb fun T tv σ v u H Q h q => by
    obtain ⟨G, as, bs, z⟩ := h
    obtain ⟨a1, a2, rfl, _, z1⟩ := id z.pop
    obtain ⟨p2, vs2, rfl, hp2, hs2⟩ := h2 z
    obtain ⟨p1, vs1, rfl, hp1, hs1⟩ := h1 z1
    obtain ⟨a3, a4, rfl, _, z2⟩ := id z1.pop
    exact ⟨p1, p2, vs1, vs2, rfl, rfl, hp1, hp2, by rw [← hs1.len, ← hs2.len]; exact hl, fun r hr => q _ _ (z2.newO hr (.lst (hs1.any'.app hs2.any')))⟩
/-- a list that stands in the heap itself -/
def Lh (B : Base) (S : Stt) (x : Slot) (ss : List Slot) : Prop := ∀ {T σ v tv H G as bs}, St0 B S (x :: T) σ (v :: tv) H G as bs → ∃ p vs, v = .ref p ∧ H p = some (.lst vs) ∧ SsI G H ss vs []
theorem lh_val {α : Type} [DecidableEq α] [Datum α] {xs : List α} : Lh B S (.val xs) (xs.map Slot.val) := fun z => by
  obtain ⟨a1, a2, _, h, z'⟩ := z.pop
  cases h with
  | val h =>
    generalize hd : Datum.toD xs = d at h
    have e : d = .list (xs.map Datum.toD) := hd.symm
    subst e
    cases h with
    | lst hp ha => exact ⟨_, _, rfl, z.sub _ _ hp, dqAll_ss ha⟩
theorem lh_own {α : Type} [DecidableEq α] [Datum α] {xs : List α} : Lh B S (.own (.lst (xs.map Slot.val))) (xs.map Slot.val) := fun z => by
  obtain ⟨a1, a2, _, h, z'⟩ := z.pop
  cases h with
  | own hp' hc =>
    cases hc with
    | lst hs => exact ⟨_, _, rfl, hp', hs.plain (plain_map xs) ▸ hs⟩
theorem lh_cell {α : Type} [DecidableEq α] [Datum α] {xs : List α} (k : Nat) {p : Addr} (hk : S.cs[k]? = some (p, .lst (xs.map Slot.val))) : Lh B S (.v (.ref p)) (xs.map Slot.val) := fun z => by
  obtain ⟨a1, a2, _, h, z'⟩ := z.pop
  cases h with
  | v =>
    obtain ⟨l, o, m, r, _, hp', hc, _⟩ := z.cel.at k hk (by intro e; cases e)
    cases hc with
    | lst hs => exact ⟨_, _, rfl, hp', hs.plain (plain_map xs) ▸ hs⟩
def catG {α : Type} (xs ys : List α) : Option (List α) := if xs.length + ys.length ≤ 16777216 then some (xs ++ ys) else none
theorem je_catG {α : Type} [DecidableEq α] [Datum α] {xs ys zs : List α} (ha : JE X B S a S1 x) (hb : JE X B S1 b S2 y) (h1 : Lh B S2 x (xs.map Slot.val)) (h2 : Lh B S2 y (ys.map Slot.val)) (h : catG xs ys = some zs) : JE X B S (.BinOp a .Add b pos) S2 (.own (.lst (zs.map Slot.val))) := by
  unfold catG at h
  split at h
  · cases h
    rw [List.map_append]
    exact je_cat ha hb h1 h2 (by rw [List.length_map, List.length_map]; assumption)
  · cases h
/-- xs.extend(ys), xs a name's list -/
theorem je_extG {α : Type} [DecidableEq α] [Datum α] {xs ys zs : List α} (k : Nat) {p : Addr} {ss0 : List Slot} (ho : JE X B S o S1 (.v (.ref p))) (hk0 : S1.cs[k]? = some (p, .lst ss0)) (he : JE X B S1 e S2 y) (hk : S2.cs[k]? = some (p, .lst (xs.map Slot.val))) (hy : Lh B S2 y (ys.map Slot.val)) (h : catG xs ys = some zs)
    (hbase : attributeBase o "extend" X.env (eval o X.env) = eval o X.env := by rfl) (hst : starEach [e] X.env = (false, eval e X.env) :: starEach [] X.env := by rfl)
    (hfew : ((backTo pos (starEach [e] X.env)).all (fun x => !x.1) && (backToKw pos (keywordEach [] X.env)).all (fun x => x.1.isSome) && decide (([e] : List Expr).length + ([] : List Keyword).length + (if ([] : List Keyword).isEmpty then 0 else 1) < 30)) = true := by rfl)
    (hline : (apos.endLine == pos.line) = true := by rfl) : JE X B S (.Call (.Attribute o "extend" apos) [e] [] pos) ⟨S2.sl, S2.cs.set k (p, .lst (zs.map Slot.val))⟩ (.v .non) :=
  je_bm k PySem.F.slot_list_extend PySem.F.type_list_extend mt_extend ho hk0 (ja_cons he ja_nil hst) (fun T tv σ vs H Q hl' hh q => by
    obtain ⟨v, rfl⟩ : ∃ v, vs = [v] := match vs, hl' with | [v], _ => ⟨v, rfl⟩
    unfold catG at h
    split at h
    · rename_i hlen
      cases h
      obtain ⟨G, as, bs, z0⟩ := id hh
      obtain ⟨q2, vs2, rfl, hq2, hs2⟩ := hy z0
      obtain ⟨a1, a2, rfl, hs1, z1⟩ := z0.pop
      obtain ⟨oo, m, hpp, hc, _, hm1, _, reb⟩ := z1.cellW hk (by intro e; cases e)
      cases hc with
      | @lst _ vs0 _ hs =>
        obtain rfl := hs.plain (plain_map xs)
        have l1 := hs.len
        have l2 := hs2.len
        rw [List.length_map] at l1 l2
        refine ⟨p, q2, vs0, vs2, rfl, rfl, hpp, hq2, by rw [← l1, ← l2]; exact hlen, ?_⟩
        have hnew : CeI G (upd H p (.lst (vs0 ++ vs2))) (.lst ((xs ++ ys).map Slot.val)) (.lst (vs0 ++ vs2)) [] := by
          rw [List.map_append]
          exact .lst (hs.any'.app hs2.any')
        obtain ⟨bs', z3⟩ := reb hnew (List.Sublist.refl _)
        exact q _ _ (z3.push .v)
    · cases h) hbase hfew hline hst
/-! any, all of made lists of truths -/
end
end J
namespace J
universe u w
open PySem L2
open PySem.W (Datum DatumOrd Holds HoldAll T3 T4)
/-! ### dicts whose keys are written -/
theorem valV_at {k : Key} : ∀ {gs : List (Key × V)} {ks : List Key} {j : Nat} {v : V}, ks = gs.map (·.1) → ks.findIdx? (fun x => decide (x = k)) = some j → (gs.map (·.2))[j]? = some v → valV gs k = some v
  | [], _, _, _, rfl, h, _ => by simp at h
  | (k0, v0) :: gs, _, j, v, rfl, h, hv => by
    rw [List.map_cons, List.findIdx?_cons] at h
    by_cases e : k0 = k
    · rw [if_pos (decide_eq_true e)] at h
      cases h
      cases hv
      exact valV_pos e
    · rw [if_neg (by rw [decide_eq_false e]; decide)] at h
      cases hq : (gs.map (·.1)).findIdx? (fun x => decide (x = k)) with
      | none => rw [hq] at h; cases h
      | some i =>
        rw [hq] at h
        cases h
        rw [valV_neg e]
        exact valV_at rfl hq hv
theorem putK_at {k : Key} {v : V} : ∀ {gs : List (Key × V)} {j : Nat}, (gs.map (·.1)).findIdx? (fun x => decide (x = k)) = some j → (gs.map (·.1)).Nodup → (putK gs k v).map (·.1) = gs.map (·.1) ∧ (putK gs k v).map (·.2) = (gs.map (·.2)).set j v := fun {gs j} h nd => by
  have hany : (gs.any fun kv => decide (kv.1 = k)) = true := by
    obtain ⟨x, hx, e⟩ := List.any_eq_true.mp (show (gs.map (·.1)).any (fun x => decide (x = k)) = true by
      rw [List.any_eq_true]
      obtain ⟨hlt, h1, _⟩ := List.findIdx?_eq_some_iff_getElem.mp h
      exact ⟨_, List.getElem_mem hlt, h1⟩)
    obtain ⟨p, hp, rfl⟩ := List.mem_map.mp hx
    exact List.any_eq_true.mpr ⟨p, hp, e⟩
  unfold putK
  rw [if_pos hany]
  refine ⟨?_, ?_⟩
  · rw [List.map_map]
    refine List.map_congr_left fun p _ => ?_
    show (if p.1 = k then (p.1, v) else p).1 = p.1
    split <;> rfl
  · obtain ⟨hlt, h1, h2⟩ := List.findIdx?_eq_some_iff_getElem.mp h
    rw [List.length_map] at hlt
    have h1' : gs[j].1 = k := by simpa using h1
    apply List.ext_getElem?
    intro i
    rw [List.map_map, List.getElem?_map, List.getElem?_set, List.getElem?_map]
    cases q : gs[i]? with
    | none =>
      rw [Option.map_none, Option.map_none]
      by_cases e : j = i
      · subst e
        rw [List.getElem?_eq_none_iff] at q
        omega
      · rw [if_neg e]
    | some p =>
      obtain ⟨hi, rfl⟩ := List.getElem?_eq_some_iff.mp q
      rw [Option.map_some, Option.map_some, List.length_map]
      by_cases e : j = i
      · subst e
        rw [if_pos rfl, if_pos hlt]
        show some (if gs[j].1 = k then (gs[j].1, v) else gs[j]).2 = some v
        rw [if_pos h1']
      · rw [if_neg e]
        show some (if gs[i].1 = k then (gs[i].1, v) else gs[i]).2 = some gs[i].2
        rw [if_neg]
        intro e2
        have := (List.pairwise_iff_getElem.mp nd)
        rcases Nat.lt_or_gt_of_ne e with hl | hl
        · exact this j i (by simpa using hlt) (by simpa using hi) hl (by simp [h1', e2])
        · exact this i j (by simpa using hi) (by simpa using hlt) hl (by simp [h1', e2])
section
variable {X : Cx} {B : Base} {S S1 S2 S3 : Stt} {x y z : Slot} {a b e o : Expr} {es : List Expr} {pos apos : Pos} {D : FE} {rest : List Stmt} {kk : Nat} {tg : Expr} {p : Addr} {ks : List Key} {ss : List Slot} {key : Str}
theorem je_dgetH (k j : Nat) {s : Slot} {i : Expr} (hr : Room kk X.A) (ho : JE X B S o S1 (.v (.ref p))) (hi : JE X B S1 i S2 (.val key)) (hk : S2.cs[k]? = some (p, .dk ks ss)) (hj : ks.findIdx? (fun x => decide (x = Sum.inr key)) = some j) (hs : ss[j]? = some s) (hp : s.plain = true := by rfl) (hns : NoSl i := by exact fun _ _ => rfl) : JE X B S (.Subscript o i pos) S2 s := fun T tv σ H Q h q =>
  pe1 (pe_dget (hu_of hr) pe0 pe0 hns) (ho _ _ _ _ _ h fun v1 H1 h1 => by
    have e := h1.exact
    subst e
    refine hi _ _ _ _ _ h1 fun v2 H2 h2 => ?_
    have e := h2.str
    subst e
    obtain ⟨G, as, bs, z⟩ := h2.drop.drop
    obtain ⟨oo, m, hpp, hc, _, _, _, _⟩ := z.cellW hk (by intro e; cases e)
    cases hc with
    | @dk _ _ gs _ hks hss =>
      obtain ⟨a1, u, m1, a2, _, hu, su, _⟩ := hss.part j hs
      obtain rfl := su.nil hp
      have hv := valV_at hks hj hu
      refine ⟨p, u, rfl, ?_, q _ _ (z.push su)⟩
      have g := DGet.k (k := Sum.inr key) hpp
      rw [hv] at g
      exact g)
/-- the cell of a dict, a written key's value stored -/
theorem Sta.dput {T : List Slot} {σ : St} {tv : List V} {H : Hp} {v : V} (h : Sta B S (y :: T) σ (v :: tv) H) (hy : y.plain = true) (k j : Nat) (hk : S.cs[k]? = some (p, .dk ks ss)) (hj : ks.findIdx? (fun x => decide (x = Sum.inr key)) = some j) (hnd : ks.Nodup) (hsp : (∀ s ∈ ss, s.plain = true)) (hn : ks.length ≤ 1000) : ∃ gs : List (Key × V), H p = some (.dK gs) ∧ gs.length < sizeLine ∧ Sta B ⟨S.sl, S.cs.set k (p, .dk ks (ss.set j y))⟩ T σ tv (upd H p (.dK (putK gs (Sum.inr key) v))) := by
  obtain ⟨G, as, bs, z0⟩ := h
  obtain ⟨a1, a2, rfl, hs1, z⟩ := z0.pop
  obtain rfl := hs1.nil hy
  obtain ⟨oo, m, hpp, hc, _, hm1, _, reb⟩ := z.cellW hk (by intro e; cases e)
  cases hc with
  | @dk _ _ gs _ hks hss =>
    obtain rfl := hss.plain hsp
    subst hks
    obtain ⟨e1, e2⟩ := putK_at (v := v) hj hnd
    have hlen : gs.length < sizeLine := by
      have : gs.length ≤ 1000 := by simpa using hn
      exact small1000 this
    have hnew : CeI G (upd H p (.dK (putK gs (Sum.inr key) v))) (.dk (gs.map (·.1)) (ss.set j y)) (.dK (putK gs (Sum.inr key) v)) [] := .dk e1.symm (by
      rw [e2]
      exact SsI.of_get (by rw [List.length_set, List.length_set, hss.len]) fun n s u h1 h2 => by
        rw [List.getElem?_set] at h1 h2
        have hl := hss.len
        by_cases en : j = n
        · rw [if_pos en] at h1 h2
          split at h1
          · rw [if_pos (by omega)] at h2
            cases h1
            cases h2
            exact hs1.any'
          · cases h1
        · rw [if_neg en] at h1 h2
          obtain ⟨u', f1, f2⟩ := hss.get _ h1
          rw [h2] at f1
          cases f1
          exact f2.any')
    obtain ⟨bs', z3⟩ := reb hnew (List.Sublist.refl _)
    exact ⟨gs, hpp, hlen, z3.sta⟩
theorem js_dputH (k j : Nat) {i : Expr} {pos' : Pos} (hr : Room kk X.A) (he : JE X B S e S1 y) (ho : JE X B S1 o S2 (.v (.ref p))) (hi : JE X B S2 i S3 (.val key)) (hk : S3.cs[k]? = some (p, .dk ks ss)) (hj : ks.findIdx? (fun x => decide (x = Sum.inr key)) = some j) (kx : JS X B ⟨S3.sl, S3.cs.set k (p, .dk ks (ss.set j y))⟩ rest D) (hy : y.plain = true := by rfl) (hnd : ks.Nodup := by decide +kernel) (hsp : ss.all (·.plain) = true := by rfl) (hn : ks.length ≤ 1000 := by decide)
    (hs : swapsWith e (some (.Subscript o i pos')) pos.line X.env = pure false := by rfl) : JS X B S (.Assign [.Subscript o i pos'] e pos :: rest) D :=
  js_step (ps_dput (hu_of hr) pe0 pe0 pe0 hs) fun T tv σ H h => he _ _ _ _ _ h fun v H1 h1 => ho _ _ _ _ _ h1 fun w1 H2 h2 => by
    have e := h2.exact
    subst e
    refine hi _ _ _ _ _ h2 fun w2 H3 h3 => ?_
    have e := h3.str
    subst e
    obtain ⟨gs, hpp, hl, h4⟩ := h3.drop.drop.dput hy k j hk hj hnd (List.all_eq_true.mp hsp) hn
    exact ⟨p, _, rfl, DPut.k (k := Sum.inr key) hpp hl, kx _ _ _ _ h4⟩
theorem js_daugH (k j : Nat) {i : Expr} {tpos : Pos} {op : Operator} {f : Int → Int → Int} {m n : Int} {ss' : List Slot} (hop : InOp X op fun x y H Q => ∃ i j, x = .int i ∧ y = .int j ∧ Q (.int (f i j)) H) (hr : Room kk X.A) (ho : JE X B S o S1 (.v (.ref p))) (hi : JE X B S1 i S2 (.val key)) (hk0 : S2.cs[k]? = some (p, .dk ks ss')) (hj : ks.findIdx? (fun x => decide (x = Sum.inr key)) = some j) (hm : ss'[j]? = some (.val m)) (he : JE X B S2 e S3 (.val n)) (hk : S3.cs[k]? = some (p, .dk ks ss)) (kx : JS X B ⟨S3.sl, S3.cs.set k (p, .dk ks (ss.set j (.val (f m n))))⟩ rest D) (hnd : ks.Nodup := by decide +kernel) (hsp : ss.all (·.plain) = true := by rfl) (hn : ks.length ≤ 1000 := by decide)
    (ha : ∀ ov iv new, augStore i ov iv new = (do holding [new, ov, iv] (setItem ov iv new); release [new, ov, iv] []; pure .next) := by intros; rfl) : JS X B S (.AugAssign (.Subscript o i tpos) op e pos :: rest) D :=
  js_step (ps_daug (hu_of hr) pe0 pe0 pe0 hop ha) fun T tv σ H h => ho _ _ _ _ _ h fun w1 H1 h1 => by
    have e := h1.exact
    subst e
    refine hi _ _ _ _ _ h1 fun w2 H2 h2 => ?_
    have e := h2.str
    subst e
    have h2' := h2
    obtain ⟨G, as, bs, z⟩ := h2'
    obtain ⟨oo, mm, hpp, hc, _, _, _, _⟩ := z.cellW hk0 (by intro e; cases e)
    cases hc with
    | @dk _ _ gs _ hks hss =>
      obtain ⟨a1, u, m1, a2, _, hu, su, _⟩ := hss.part j hm
      obtain rfl := su.nil rfl
      have hv := valV_at hks hj hu
      have h3 : Sta B S2 (.val m :: .val key :: .v (.ref p) :: T) σ (u :: .str key :: .ref p :: tv) H2 := z.push su
      have e := h3.int
      subst e
      refine ⟨p, .int m, rfl, ?_, he _ _ _ _ _ h3 fun w3 H3 h4 => ?_⟩
      · have g := DGet.k (k := Sum.inr key) hpp
        rw [hv] at g
        exact g
      · have e := h4.int
        subst e
        refine ⟨m, n, rfl, rfl, ?_⟩
        have h5 : Sta B S3 (.val (f m n) :: T) σ (.int (f m n) :: tv) H3 := h4.drop.drop.drop.drop.push fun _ _ => sl_int _
        obtain ⟨gs, hpp, hl, h6⟩ := h5.dput rfl k j hk hj hnd (List.all_eq_true.mp hsp) hn
        exact ⟨_, DPut.k (k := Sum.inr key) hpp hl, kx _ _ _ _ h6⟩
/-- a written dict with written texts as keys -/
def JPs (X : Cx) (B : Base) (S : Stt) (kvs : List (Expr × Expr)) (S' : Stt) (ks : List Key) (xs : List Slot) : Prop := ∀ T tv σ H Q, Sta B S T σ tv H → (∀ vs H', vs.length = xs.length → ks.length = xs.length → Sta B S' (xs ++ T) σ (vs ++ tv) H' → Q ((ks.map kV).zip vs) H') → tPairs (kvs.map fun q => (teOf X q.1, teOf X q.2)) σ H Q
theorem jps_nil : JPs X B S [] S [] [] := fun T tv σ H Q h q => q [] H rfl rfl h
theorem jps_cons {k v : Expr} {r : List (Expr × Expr)} {xs : List Slot} (hk : JE X B S k S1 (.val key)) (hv : JE X B S1 v S2 x) (hr : JPs X B S2 r S3 ks xs) : JPs X B S ((k, v) :: r) S3 (Sum.inr key :: ks) (x :: xs) := fun T tv σ H Q h q =>
  hk _ _ _ _ _ h fun u H1 h1 => by
    have e := h1.str
    subst e
    exact hv _ _ _ _ _ h1.drop fun u H2 h2 => hr _ _ _ _ _ h2 fun vs H3 hl hl2 h3 => q (u :: vs) H3 (congrArg Nat.succ hl) (congrArg Nat.succ hl2) (Sta.rot hl.symm h3)
theorem pps_of {pos : Pos} : ∀ kvs : List (Expr × Expr), PPs X pos (kvs.map fun q => some q.1) (kvs.map (·.2)) (kvs.map fun q => (teOf X q.1, teOf X q.2))
  | [] => pps_nil
  | (k, v) :: r => pps_cons pe0 pe0 (pps_of r)
theorem merge_nodup : ∀ (more kvs : List (Key × V)), (kvs ++ more).map (·.1) |>.Nodup → mergeK kvs more = kvs ++ more
  | [], kvs, _ => by show kvs = kvs ++ []; rw [List.append_nil]
  | p :: r, kvs, h => by
    have hno : (kvs.any fun kv => decide (kv.1 = p.1)) = false := by
      cases q : kvs.any fun kv => decide (kv.1 = p.1) with
      | false => rfl
      | true =>
        obtain ⟨z, hz, e⟩ := List.any_eq_true.mp q
        rw [List.map_append] at h
        exact absurd (of_decide_eq_true e) ((List.nodup_append.mp h).2.2 z.1 (List.mem_map.mpr ⟨z, hz, rfl⟩) p.1 (List.mem_map.mpr ⟨p, List.mem_cons_self, rfl⟩))
    have e : putK kvs p.1 p.2 = kvs ++ [p] := by
      unfold putK
      rw [if_neg (by rw [hno]; decide)]
    show mergeK (putK kvs p.1 p.2) r = kvs ++ p :: r
    rw [e, merge_nodup r (kvs ++ [p]) (by rwa [List.append_assoc])]
    rw [List.append_assoc]
    rfl
theorem je_dispH {kvs : List (Expr × Expr)} {xs : List Slot} (h : JPs X B S kvs S1 ks xs) (hnd : ks.Nodup := by decide +kernel) (hn : 0 < kvs.length ∧ kvs.length ≤ 15 ∧ ks.length ≤ 15 := by decide) : JE X B S (.Dict (kvs.map fun q => some q.1) (kvs.map (·.2)) pos) S1 (.own (.dk ks xs)) := fun T tv σ H Q hs q =>
  pe1 (pe_disp (pps_of kvs) (by rw [List.all_map, List.all_eq_true]; intro _ _; rfl) (by rw [List.length_map, List.length_map]) (by intro e; have := congrArg List.length e; rw [List.length_map] at this; exact absurd this (by simpa using Nat.ne_of_gt hn.1)) (by rw [List.length_map]; exact hn.2.1)) (fun p hp => by
    obtain ⟨G, as, bs, z⟩ := hs
    have h1 : Sta B S (.own (.dk [] []) :: T) σ (.ref p :: tv) (upd H p (.dK [])) := z.newO hp (.dk rfl .nil)
    refine h _ _ _ _ _ h1 fun vs H2 hl hl2 h2 => ?_
    obtain ⟨G2, as2, bs2, z2⟩ := h2
    obtain ⟨a1, a2, rfl, g1, z3⟩ := z2.split hl.symm
    obtain ⟨a3, a4, rfl, g2, z4⟩ := z3.pop
    cases g2 with
    | @own _ _ o m hD hc =>
      cases hc with
      | @dk _ _ gs _ e1 hss =>
        have eg : gs = [] := by simpa using e1.symm
        subst eg
        cases hss
        refine ⟨hD, ks.zip vs, ?_, ?_, ?_⟩
        · rw [List.zip_map_left]
          rfl
        · rw [List.length_zip]
          omega
        · have em : mergeK [] (ks.zip vs) = ks.zip vs := merge_nodup _ [] (by
            show ((ks.zip vs).map (·.1)).Nodup
            rw [List.map_fst_zip (by omega)]
            exact hnd)
          rw [em]
          have nd := z2.nod
          have pm : ((p :: a1) ++ a4 ++ bs2).Perm (a1 ++ ([p] ++ a4) ++ bs2) := List.Perm.append_right _ (by
            have e1 : ((p :: a1) ++ a4).Perm ((a1 ++ [p]) ++ a4) := List.Perm.append_right _ (by
              have : ([p] ++ a1).Perm (a1 ++ [p]) := List.perm_append_comm
              exact this)
            rwa [List.append_assoc a1] at e1)
          have nd2 := pm.nodup_iff.mpr nd
          have nD : ∀ a ∈ a1 ++ a4 ++ bs2, a ≠ p := fun a ha e => by
            subst e
            have : ((a :: a1) ++ a4 ++ bs2) = a :: (a1 ++ a4 ++ bs2) := by simp
            rw [this] at nd2
            exact (List.nodup_cons.mp nd2).1 ha
          have fr := fun a ha => z2.fre a (pm.mem_iff.mp ha)
          have hG : G2 p = none := (fr p (by simp)).1
          have hF : B.F p = none := (fr p (by simp)).2
          refine q _ _ ⟨G2, (p :: a1) ++ a4, bs2, .cons (.own upd_same (.dk ?_ ?_)) (z4.tmp.mono (Ex.refl G2) fun a ha => upd_ne (nD a (by simp [ha]))), z4.cel.mono (Ex.refl G2) fun a ha => upd_ne (nD a (by simp [ha])), z2.slo, nd2, fr, z2.gro, z2.new, fun a u ha => by rw [upd_ne (by intro e; subst e; rw [hG] at ha; cases ha)]; exact z2.sub a u ha, fun a u ha => by rw [upd_ne (by intro e; subst e; rw [hF] at ha; cases ha)]; exact z2.frm a u ha⟩
          · rw [List.map_fst_zip (by omega)]
          · rw [List.map_snd_zip (by omega)]
            exact g1.mono (Ex.refl G2) fun a ha => upd_ne (nD a (by simp [ha])))
end
end J
namespace J
universe u w
open PySem L2
open PySem.W (Datum DatumOrd Holds HoldAll T3 T4)
/-! ### what may fail is told by none: the rules over it -/
def lcM {ι α β : Type} (f : ι → α → Option (Option β × ι)) (xs : List α) (s : ι) : Option (List β × ι) := if xs.length ≤ 16777216 then cmpM f xs s else none
theorem lcM_of {ι α β : Type} {f : ι → α → Option (Option β × ι)} {xs : List α} {s : ι} {r : List β × ι} (h : lcM f xs s = some r) : xs.length ≤ 16777216 ∧ cmpM f xs s = some (r.1, r.2) := by
  unfold lcM at h
  by_cases e : xs.length ≤ 16777216
  · rw [if_pos e] at h; exact ⟨e, h⟩
  · rw [if_neg e] at h; cases h
def rngG (j : Int) : Option (List Int) := if -(4611686018427387904 : Int) ≤ j ∧ j < 4611686018427387904 then some (rng 0 j.toNat) else none
def rngG2 (i j : Int) : Option (List Int) := if (-(4611686018427387904 : Int) ≤ i ∧ i < 4611686018427387904) ∧ -(4611686018427387904 : Int) ≤ j ∧ j < 4611686018427387904 then some (rng i (j - i).toNat) else none
def minG {α : Type} [DecidableEq α] [DatumOrd α] : List α → Option α
  | [] => none
  | t :: ts => some (PySem.W.minOf t ts)
def popG {α : Type} (xs : List α) (i : Int) : Option (α × List α) := if xs.length ≤ 16777216 then (ixp xs.length i).bind fun j => xs[j]?.bind fun t => some (t, xs.eraseIdx j) else none
def idxG {α : Type} [DecidableEq α] (xs : List α) (t : α) : Option Int := if t ∈ xs then some ((xs.idxOf t : Nat) : Int) else none
theorem popG_of {α : Type} {xs : List α} {i : Int} {r : α × List α} (h : popG xs i = some r) : ∃ j, xs.length ≤ 16777216 ∧ ixp xs.length i = some j ∧ xs[j]? = some r.1 ∧ r.2 = xs.eraseIdx j := by
  unfold popG at h
  by_cases e : xs.length ≤ 16777216
  · rw [if_pos e] at h
    refine bnd h fun j hj h => bnd h fun t ht h => ?_
    cases h
    exact ⟨j, e, hj, ht, rfl⟩
  · rw [if_neg e] at h; cases h
theorem map_erase {α : Type u} {β : Type w} (f : α → β) : ∀ (xs : List α) (j : Nat), (xs.eraseIdx j).map f = (xs.map f).eraseIdx j
  | [], _ => rfl
  | _ :: _, 0 => rfl
  | x :: xs, j + 1 => congrArg (f x :: ·) (map_erase f xs j)
section
variable {X : Cx} {B : Base} {S S1 S2 S3 : Stt} {x y z : Slot} {a b e o : Expr} {es : List Expr} {pos apos : Pos} {D : FE} {rest : List Stmt} {kk : Nat} {tg : Expr} {p : Addr}
theorem je_appG {α : Type} [DecidableEq α] [Datum α] {xs ys : List α} {t : α} (k : Nat) {ss0 : List Slot} (ho : JE X B S o S1 (.v (.ref p))) (hk0 : S1.cs[k]? = some (p, .lst ss0)) (he : JE X B S1 e S2 (.val t)) (hk : S2.cs[k]? = some (p, .lst (xs.map Slot.val))) (h : psh xs t = some ys)
    (hbase : attributeBase o "append" X.env (eval o X.env) = eval o X.env := by rfl) (hst : starEach [e] X.env = (false, eval e X.env) :: starEach [] X.env := by rfl)
    (hfew : ((backTo pos (starEach [e] X.env)).all (fun x => !x.1) && (backToKw pos (keywordEach [] X.env)).all (fun x => x.1.isSome) && decide (([e] : List Expr).length + ([] : List Keyword).length + (if ([] : List Keyword).isEmpty then 0 else 1) < 30)) = true := by rfl)
    (hline : (apos.endLine == pos.line) = true := by rfl) : JE X B S (.Call (.Attribute o "append" apos) [e] [] pos) ⟨S2.sl, S2.cs.set k (p, .lst (ys.map Slot.val))⟩ (.v .non) := by
  obtain ⟨hl, rfl⟩ := psh_some h
  have := je_append (y := .val t) k ho hk0 he hk (by rw [List.length_map]; exact hl) rfl hbase hst hfew hline
  rw [List.map_append]
  exact this
theorem je_popG {α : Type} [DecidableEq α] [Datum α] {xs : List α} {i : Int} {r : α × List α} (k : Nat) {ss0 : List Slot} (ho : JE X B S o S1 (.v (.ref p))) (hk0 : S1.cs[k]? = some (p, .lst ss0)) (he : JE X B S1 e S2 (.val i)) (hk : S2.cs[k]? = some (p, .lst (xs.map Slot.val))) (h : popG xs i = some r)
    (hbase : attributeBase o "pop" X.env (eval o X.env) = eval o X.env := by rfl) (hst : starEach [e] X.env = (false, eval e X.env) :: starEach [] X.env := by rfl)
    (hfew : ((backTo pos (starEach [e] X.env)).all (fun x => !x.1) && (backToKw pos (keywordEach [] X.env)).all (fun x => x.1.isSome) && decide (([e] : List Expr).length + ([] : List Keyword).length + (if ([] : List Keyword).isEmpty then 0 else 1) < 30)) = true := by rfl)
    (hline : (apos.endLine == pos.line) = true := by rfl) : JE X B S (.Call (.Attribute o "pop" apos) [e] [] pos) ⟨S2.sl, S2.cs.set k (p, .lst (r.2.map Slot.val))⟩ (.val r.1) := by
  obtain ⟨j, hl, hj, ht, e⟩ := popG_of h
  have := je_popAt (s := .val r.1) k ho hk0 he hk (plain_map xs) (by rw [List.length_map]; exact hj) (by rw [List.getElem?_map, ht]; rfl) (by rw [List.length_map]; exact hl) hbase hst hfew hline
  rw [e, map_erase]
  exact this
theorem ji_rngG {q : Pos} {j : Int} {r : List Int} (hm : X.mg "range" = none) (ha : JE X B S e S1 (.val j)) (h : rngG j = some r) (hg : Gl X "range" := by rfl) (hst : starEach [e] X.env = (false, eval e X.env) :: starEach [] X.env := by rfl) (hs : starEach [e] X.env = [(false, eval e X.env)] := by rfl) : JI X B S tg (.Call (.Name "range" q) [e] [] pos) S1 [] (r.map Slot.val) (fun _ => True) := by
  unfold rngG at h
  by_cases c : -(4611686018427387904 : Int) ≤ j ∧ j < 4611686018427387904
  · rw [if_pos c] at h; cases h
    exact ji_range1 hm ha c hg hst hs
  · rw [if_neg c] at h; cases h
theorem ji_rngG2 {q : Pos} {i j : Int} {r : List Int} (hm : X.mg "range" = none) (ha : JE X B S a S1 (.val i)) (hb : JE X B S1 b S2 (.val j)) (h : rngG2 i j = some r) (hg : Gl X "range" := by rfl) (hst : starEach [a, b] X.env = (false, eval a X.env) :: starEach [b] X.env := by rfl) (hst2 : starEach [b] X.env = (false, eval b X.env) :: starEach [] X.env := by rfl) (hs : starEach [a, b] X.env = [(false, eval a X.env), (false, eval b X.env)] := by rfl) (hs2 : starEach [b] X.env = [(false, eval b X.env)] := by rfl) : JI X B S tg (.Call (.Name "range" q) [a, b] [] pos) S2 [] (r.map Slot.val) (fun _ => True) := by
  unfold rngG2 at h
  by_cases c : (-(4611686018427387904 : Int) ≤ i ∧ i < 4611686018427387904) ∧ -(4611686018427387904 : Int) ≤ j ∧ j < 4611686018427387904
  · rw [if_pos c] at h; cases h
    exact ji_range2 hm ha hb c hg hst hst2 hs hs2
  · rw [if_neg c] at h; cases h
theorem je_minG {β : Type} [DecidableEq β] [DatumOrd β] {r : β} {xs : List β} {q : Pos} (hr : Room kk X.A) (hm : X.mg "min" = none) (ha : JE X B S e S1 x) (hl : Lv X.K B S1 x (xs.map Slot.val)) (h : minG xs = some r) (hc : X.calm = true := by rfl) (hd : Datum.depth β ≤ 60 := by decide) (hg : Gl X "min" := by rfl) (hst : starEach [e] X.env = (false, eval e X.env) :: starEach [] X.env := by rfl) : JE X B S (.Call (.Name "min" q) [e] [] pos) S1 (.val r) := by
  cases xs with
  | nil => cases h
  | cons t ts => cases h; exact je_minT hr hm ha hl hc hd hg hst
/-- the same state, less told of -/
theorem le_fgt {sl : List Slot} {cs : List (Addr × Cel)} (n : Nat) (f : Fgt S.sl sl) (hc : S.cs.take n = cs) : Le B S ⟨sl, cs⟩ := fun _ _ _ _ h => by
  have h2 := (h.fgt f).take n
  rw [show (⟨sl, S.cs⟩ : Stt).cs.take n = cs from hc] at h2
  exact h2
end
end J
namespace J
universe u w
open PySem L2
open PySem.W (Datum DatumOrd Holds HoldAll T3 T4 Tup)
/-! ### remove, index, count; tuples of one kind; calls by names -/
def rRemT : V → List V → Hp → VK → Prop := fun x xs H Q => ∃ (α : Type) (i1 : DecidableEq α) (i2 : Datum α) (t : α) (ts : List α) (y : V) (l : Addr) (vs : List V), x = .ref l ∧ xs = [y] ∧ Dq H y (Datum.toD (α := α) t) ∧ H l = some (.lst vs) ∧ DqAll H vs (ts.map (@Datum.toD α i1 i2)) ∧ @Datum.depth α i1 i2 ≤ 60 ∧ t ∈ ts ∧ Q .non (upd H l (.lst (vs.eraseIdx (ts.idxOf t))))
theorem mt_remT {X : Cx} (hu : X.A.units + 64 < cLine) : MtR X "list.remove" rRemT := by
  intro pins s σ H x xs v us Q I rx rxs h
  obtain ⟨α, i1, i2, t, ts, y, l, vs, rfl, rfl, h1, hH, ha, hd, hm, q⟩ := h
  cases rx
  obtain ⟨u, rfl, ru⟩ := vals1 rxs
  obtain ⟨z, its, n, r, hl, e⟩ := I.lstM hH
  obtain ⟨its2, r2, pl, hz2⟩ := I.list (.of (K := X.K) hH)
  have e2 : its2 = its := by
    obtain ⟨o, m, e3, _, _, e4⟩ := pl
    rw [e] at e3
    cases e3
    simp only at e4
    injection e4 with e5
    have := congrArg Array.toList e5
    simpa using this.symm
  subst e2
  have hlt : ts.idxOf t < ts.length := List.idxOf_lt_length_iff.mpr hm
  refine PySem.W.remove_list_datum (j := ts.idxOf t) pl.isList (by simpa using holdAll_of I ha r) (holds_of I h1 ru) (by omega) (by rw [List.getElem?_eq_getElem hlt, List.getElem_idxOf hlt]) (fun m hm2 e3 => ?_) (by simpa using Nat.le_trans (Nat.le_of_eq hl.symm) z) ?_
  · obtain ⟨h3, h4⟩ := List.getElem?_eq_some_iff.mp e3
    have h5 := List.not_of_lt_findIdx (p := (· == t)) (xs := ts) (show m < ts.findIdx (· == t) from hm2)
    rw [h4, beq_self_eq_true] at h5
    simp at h5
  · refine ⟨.non, _, I.lset (its' := its2.eraseIdx (ts.idxOf t)) (t' := s.toks) hH e ?_ (r.eraseIdx _) ?_, rfl, q⟩
    · show its2.toArray.eraseIdxIfInBounds _ = (its2.eraseIdx _).toArray
      rw [List.eraseIdxIfInBounds_toArray]
    · have := List.length_eraseIdx_le vs (ts.idxOf t)
      omega
def remG {α : Type} [DecidableEq α] (xs : List α) (t : α) : Option (List α) := if t ∈ xs then some (xs.eraseIdx (xs.idxOf t)) else none
section
variable {X : Cx} {B : Base} {S S1 S2 S3 : Stt} {x y z : Slot} {a b e o : Expr} {es : List Expr} {pos apos : Pos} {D : FE} {rest : List Stmt} {kk : Nat} {tg : Expr} {p : Addr}
theorem je_remG {α : Type} [DecidableEq α] [Datum α] {xs ys : List α} {t : α} (k : Nat) {ss0 : List Slot} (hr : Room kk X.A) (ho : JE X B S o S1 (.v (.ref p))) (hk0 : S1.cs[k]? = some (p, .lst ss0)) (he : JE X B S1 e S2 (.val t)) (hk : S2.cs[k]? = some (p, .lst (xs.map Slot.val))) (h : remG xs t = some ys) (hd : Datum.depth α ≤ 60 := by decide)
    (hbase : attributeBase o "remove" X.env (eval o X.env) = eval o X.env := by rfl) (hst : starEach [e] X.env = (false, eval e X.env) :: starEach [] X.env := by rfl)
    (hfew : ((backTo pos (starEach [e] X.env)).all (fun x => !x.1) && (backToKw pos (keywordEach [] X.env)).all (fun x => x.1.isSome) && decide (([e] : List Expr).length + ([] : List Keyword).length + (if ([] : List Keyword).isEmpty then 0 else 1) < 30)) = true := by rfl)
    (hline : (apos.endLine == pos.line) = true := by rfl) : JE X B S (.Call (.Attribute o "remove" apos) [e] [] pos) ⟨S2.sl, S2.cs.set k (p, .lst (ys.map Slot.val))⟩ (.v .non) := by
  unfold remG at h
  by_cases hm : t ∈ xs
  · rw [if_pos hm] at h
    cases h
    exact je_bm k PySem.F.slot_list_remove PySem.F.type_list_remove (mt_remT hr.units) ho hk0 (ja_cons he ja_nil hst) (fun T tv σ vs H Q hl' h q => by
      obtain ⟨v, rfl⟩ : ∃ v, vs = [v] := match vs, hl' with | [v], _ => ⟨v, rfl⟩
      obtain ⟨G, as, bs, z0⟩ := id h
      obtain ⟨a1, a2, rfl, g1, z1⟩ := z0.pop
      obtain rfl := g1.nil rfl
      have hv := sl_dq g1
      obtain ⟨oo, m, hpp, hc, _, hm1, _, reb⟩ := z1.cellW hk (by intro e; cases e)
      cases hc with
      | @lst _ vs0 _ hs =>
        obtain rfl := hs.plain (plain_map xs)
        have hdq := ss_dqAll hs
        have hlen := hs.len
        refine ⟨α, _, _, t, xs, v, p, vs0, rfl, rfl, dq_mono z1.sub hv, hpp, dqAll_mono z1.sub hdq, hd, hm, ?_⟩
        have hnew : CeI G (upd H p (.lst (vs0.eraseIdx (xs.idxOf t)))) (.lst ((xs.eraseIdx (xs.idxOf t)).map Slot.val)) (.lst (vs0.eraseIdx (xs.idxOf t))) [] := .lst (by
          rw [map_erase]
          exact SsI.of_get (by rw [List.length_eraseIdx, List.length_eraseIdx, hs.len]) fun i s u h1 h2 => by
            rw [List.getElem?_eraseIdx] at h1 h2
            split at h1
            · rw [if_pos (by assumption)] at h2
              obtain ⟨u', e1, e2⟩ := hs.get _ h1
              rw [h2] at e1
              cases e1
              exact e2.any'
            · rw [if_neg (by assumption)] at h2
              obtain ⟨u', e1, e2⟩ := hs.get _ h1
              rw [h2] at e1
              cases e1
              exact e2.any')
        obtain ⟨bs', z3⟩ := reb hnew (List.Sublist.refl _)
        exact q _ _ (z3.push .v)) hbase hfew hline hst
  · rw [if_neg hm] at h; cases h
/-- what is asked of a list by its object: index, count -/
theorem je_idxC {α : Type} [DecidableEq α] [Datum α] {xs : List α} {t : α} {j : Int} (k : Nat) {ss0 : List Slot} (hr : Room kk X.A) (ho : JE X B S o S1 (.v (.ref p))) (hk0 : S1.cs[k]? = some (p, .lst ss0)) (he : JE X B S1 e S2 (.val t)) (hk : S2.cs[k]? = some (p, .lst (xs.map Slot.val))) (h : idxG xs t = some j) (hd : Datum.depth α ≤ 60 := by decide)
    (hbase : attributeBase o "index" X.env (eval o X.env) = eval o X.env := by rfl) (hst : starEach [e] X.env = (false, eval e X.env) :: starEach [] X.env := by rfl)
    (hfew : ((backTo pos (starEach [e] X.env)).all (fun x => !x.1) && (backToKw pos (keywordEach [] X.env)).all (fun x => x.1.isSome) && decide (([e] : List Expr).length + ([] : List Keyword).length + (if ([] : List Keyword).isEmpty then 0 else 1) < 30)) = true := by rfl)
    (hline : (apos.endLine == pos.line) = true := by rfl) : JE X B S (.Call (.Attribute o "index" apos) [e] [] pos) S2 (.val j) := by
  unfold idxG at h
  by_cases hm : t ∈ xs
  · rw [if_pos hm] at h
    cases h
    exact je_bm k PySem.F.slot_list_index PySem.F.type_list_index (mt_idxT hr.units) ho hk0 (ja_cons he ja_nil hst) (fun T tv σ vs H Q hl' h q => by
      obtain ⟨v, rfl⟩ : ∃ v, vs = [v] := match vs, hl' with | [v], _ => ⟨v, rfl⟩
      obtain ⟨G, as, bs, z0⟩ := id h
      obtain ⟨a1, a2, rfl, g1, z1⟩ := z0.pop
      obtain rfl := g1.nil rfl
      have hv := sl_dq g1
      obtain ⟨oo, m, hpp, hc, _, hm1, _, reb⟩ := z1.cellW hk (by intro e; cases e)
      cases hc with
      | @lst _ vs0 _ hs => exact ⟨α, _, _, t, xs, v, rfl, dq_mono z1.sub hv, ⟨p, vs0, rfl, .of hpp, dqAll_mono z1.sub (ss_dqAll hs)⟩, hd, hm, q _ _ (z1.push (sl_int _))⟩) hbase hfew hline hst
  · rw [if_neg hm] at h; cases h
def cntG {α : Type} [DecidableEq α] (xs : List α) (t : α) : Int := ((xs.countP fun y => decide (y = t) : Nat) : Int)
/-- methods of a list said as a value -/
theorem je_bmv {id : String} {r : V → List V → Hp → VK → Prop} {name : Str} {α : Type} [DecidableEq α] [Datum α] {xs : List α} {ys : List Slot} (slot : PySem.Slot "list" name id) (hty : typeOf (.builtin id) = pure (.type "method_descriptor")) (hm : MtR X id r) (ho : JE X B S o S1 (.val xs)) (ha : JA X B S1 (e :: es) S2 ys)
    (hr : ∀ T tv σ v vs H Q, vs.length = ys.length → Sta B S2 (ys ++ .val xs :: T) σ (vs ++ v :: tv) H → (∀ w H', Sta B S3 (z :: T) σ (w :: tv) H' → Q w H') → r v vs H Q)
    (hbase : attributeBase o name X.env (eval o X.env) = eval o X.env := by rfl)
    (hfew : ((backTo pos (starEach (e :: es) X.env)).all (fun x => !x.1) && (backToKw pos (keywordEach [] X.env)).all (fun x => x.1.isSome) && decide ((e :: es).length + ([] : List Keyword).length + (if ([] : List Keyword).isEmpty then 0 else 1) < 30)) = true := by rfl)
    (hline : (apos.endLine == pos.line) = true := by rfl) (hs : starEach (e :: es) X.env = (false, eval e X.env) :: starEach es X.env := by rfl) (hplain : (backTo pos (starEach es X.env)).any (·.1) = false := by rfl) : JE X B S (.Call (.Attribute o name apos) (e :: es) [] pos) S3 z := fun T tv σ H Q h q =>
  pe1 (pe_bm PySem.F.plainAttrs_list slot hty hm pe0 pa0 hbase hfew hline hs hplain) (ho _ _ _ _ _ h fun v H1 h1 => by
    have h1c := h1
    obtain ⟨G, as, bs, z0⟩ := h1c
    obtain ⟨a1, a2, rfl, g1, z1⟩ := z0.pop
    have hv := dq_mono z1.sub (sl_dq g1)
    cases hv with
    | @lst l vs0 _ hH hd => exact ⟨.inl ⟨rfl, _, .of hH⟩, ha _ _ _ _ _ h1 fun vs H3 hl h3 => hr _ _ _ _ _ _ _ hl h3 q⟩)
theorem je_cntV {α : Type} [DecidableEq α] [Datum α] {xs : List α} {t : α} (hr : Room kk X.A) (ho : JE X B S o S1 (.val xs)) (he : JE X B S1 e S2 (.val t)) (hd : Datum.depth α ≤ 60 := by decide)
    (hbase : attributeBase o "count" X.env (eval o X.env) = eval o X.env := by rfl) (hst : starEach [e] X.env = (false, eval e X.env) :: starEach [] X.env := by rfl)
    (hfew : ((backTo pos (starEach [e] X.env)).all (fun x => !x.1) && (backToKw pos (keywordEach [] X.env)).all (fun x => x.1.isSome) && decide (([e] : List Expr).length + ([] : List Keyword).length + (if ([] : List Keyword).isEmpty then 0 else 1) < 30)) = true := by rfl)
    (hline : (apos.endLine == pos.line) = true := by rfl) : JE X B S (.Call (.Attribute o "count" apos) [e] [] pos) S2 (.val (cntG xs t)) :=
  je_bmv PySem.F.slot_list_count PySem.F.type_list_count (mt_cntT hr.units) ho (ja_cons he ja_nil hst) (fun T tv σ u vs H Q hl' h q => by
      obtain ⟨v, rfl⟩ : ∃ v, vs = [v] := match vs, hl' with | [v], _ => ⟨v, rfl⟩
      obtain ⟨G, as, bs, z0⟩ := id h
      obtain ⟨a1, a2, rfl, g1, z1⟩ := z0.pop
      have hv := sl_dq g1
      obtain ⟨a3, a4, rfl, g2, z2⟩ := z1.pop
      have hx := dq_mono z1.sub (sl_dq g2)
      cases hx with
      | @lst l vs0 _ hH hd2 => exact ⟨α, _, _, t, xs, v, rfl, dq_mono z1.sub hv, ⟨l, vs0, rfl, .of hH, hd2⟩, hd, q _ _ (z2.push (sl_int _))⟩) hbase hfew hline hst
/-- a tuple of one kind, by a number -/
theorem je_ixt {α : Type} [DecidableEq α] [Datum α] {xs : Tup α} {t : α} {i : Int} (ha : JE X B S a S1 (.val xs)) (hb : JE X B S1 b S2 (.val i)) (hi : gx xs.items i = some t) (hs : PlainIx b := by exact fun _ _ => rfl) : JE X B S (.Subscript a b pos) S2 (.val t) := fun T tv σ H Q h q =>
  pe1 (pe_ix ix_tup pe0 pe0 hs) (ha _ _ _ _ _ h fun v H1 h1 => hb _ _ _ _ _ h1 fun u H2 h2 => by
    have e := h2.int
    subst e
    obtain ⟨G, as, bs, z⟩ := h2.drop
    obtain ⟨a1, a2, rfl, g1, z'⟩ := z.pop
    have hx := sl_dq g1
    cases hx with
    | @tup l vs0 _ hH hd =>
      rw [gx_ixp] at hi
      cases hj : ixp xs.items.length i with
      | none => rw [hj] at hi; cases hi
      | some j =>
        rw [hj] at hi
        have hss := dqAll_ss (H := H2) hd
        obtain ⟨w, hw, sw⟩ := hss.get j (s := .val t) (by
          have hi' : xs.items[j]? = some t := hi
          rw [List.getElem?_map, hi']; rfl)
        have hlen := hss.len
        rw [List.length_map] at hlen
        refine ⟨l, vs0, i, w, rfl, rfl, .inl (.inl (z'.sub _ _ hH)), ?_, q w H2 (z'.push sw)⟩
        rw [atI_gx, gx_ixp, ← hlen, hj]
        exact hw)
theorem slds_vals {α : Type} [DecidableEq α] [Datum α] : ∀ xs : List α, SlDs (xs.map Slot.val) (xs.map Datum.toD)
  | [] => .nil
  | _ :: xs => .cons sld_val (slds_vals xs)
theorem je_tupv {α : Type} [DecidableEq α] [Datum α] {xs : List α} {k : Nat} (ha : JA X B S es S1 (xs.map Slot.val)) (hl : xs.length ≤ 1000 := by exact Nat.le_of_ble_eq_true rfl) : JE X B S (.Tuple es k pos) S1 (.val (Tup.mk xs)) :=
  je_tup ha (slds_vals xs) rfl (by rw [List.length_map]; exact hl)
end
/-! by names alone -/
section
variable {K : PySem.W.Frag} {x qual : Str} {params : Arguments} {body : List Stmt} {scope : Scope} {f : Addr} {fd : FuncData} {ps : List Str}
theorem kb0 (F : FunD K x qual params body scope [] [] f fd) (ks : List Str) (g : {α : Type} → List α → List α)
    (hrel : ∀ {zs : List V} {ws : List Value}, Vals zs ws → Vals (g zs) (g ws))
    (h : ∀ (kV doc pm : Value) (an : Option Addr) (cdv ct : Value) (ws : List Value), ws.length = ks.length → bindArgs (PySem.W.fnOf x qual params body scope .none kV doc pm an cdv ct) ⟨[], ks.zip ws⟩ = pure (ps.zip (g ws))) : KBn K fd ps 0 ks (fun _ ws => g ws) (fun _ zs => g zs) := by
  obtain ⟨oc, od, dV, kV, doc, pm, an, cdv, ct, osl, rfl, lk, hcd, hD, hK⟩ := F.ex
  rcases hD with ⟨_, rfl⟩ | ⟨e, _⟩
  · refine ⟨fun s us ws X l1 l2 => ?_, fun _ r => hrel r⟩
    obtain rfl := List.eq_nil_of_length_eq_zero l1
    exact .of_eq (h kV doc pm an cdv ct ws l2)
  · exact absurd rfl e
end
section
variable {X : Cx} {B : Base} {S S1 S2 S3 : Stt} {x y z : Slot} {a b e o : Expr} {es : List Expr} {pos apos : Pos} {D : FE} {rest : List Stmt} {kk : Nat} {tg : Expr} {p : Addr} {kws : List Keyword}
/-- keywords' values, from the left -/
def JK (X : Cx) (B : Base) (S : Stt) (kws : List Keyword) (S' : Stt) (xs : List Slot) : Prop := ∀ T tv σ H (Q : List V → Hp → Prop), Sta B S T σ tv H → (∀ vs H', vs.length = xs.length → Sta B S' (xs ++ T) σ (vs ++ tv) H' → Q vs H') → ∃ t, PK X kws t ∧ t σ H Q
theorem jk_nil : JK X B S [] S [] := fun T tv σ H Q hs q => ⟨_, pk_nil, q [] H rfl hs⟩
def tkOf (X : Cx) (kws : List Keyword) : TA := fun σ H Q => ∃ t, PK X kws t ∧ t σ H Q
theorem pk0 : PK X kws (tkOf X kws) := ⟨fun pos pins s σ H Q I ⟨_, hp, h⟩ => hp.run pos pins s σ H Q I h⟩
theorem jk_cons {nm : Option Str} {kpos : Pos} {xs : List Slot} (h1 : JE X B S e S1 x) (h2 : JK X B S1 kws S2 xs) : JK X B S (⟨nm, e, kpos⟩ :: kws) S2 (x :: xs) := fun T tv σ H Q hs q =>
  ⟨_, pk_cons pe0 pk0, h1 _ _ _ _ _ hs fun v H1 g1 => h2 _ _ _ _ _ g1 fun vs H2 hl g2 => q (v :: vs) H2 (congrArg Nat.succ hl) (Sta.rot hl.symm g2)⟩
theorem pe_callN0 {CX : CXT} {k : Nat} {f : Addr} {fd : FuncData} {ps ks : List Str} {sp : Sp} {E : XK} {n : Str} {q : Pos} {g : List Value → List Value → List Value} {gV : List V → List V → List V} {tk : TA} (F : FnOk X.prog X.w X.K X.mg X.base CX k f fd ps sp) (hr : Room k X.A) (hg : Gl X n) (hm : X.mg n = some (.ref f)) (hk : PySem.W.keepIn X.K (.ref f) = true) (hb : KBn X.K fd ps 0 ks g gV) (hx : Passes CX X E)
    (hkw : PK X kws tk) (hall : (backToKw pos (keywordEach kws X.env)).all (·.1.isSome) = true := by rfl) (hks : (backToKw pos (keywordEach kws X.env)).filterMap (·.1) = ks := by rfl)
    (hdb : (n == ("__debug__" : Str)) = false := by decide)
    (hpl : ((backTo pos (starEach [] X.env)).any (·.1) || (backToKw pos (keywordEach kws X.env)).any (·.1.isNone)) = false := by rfl) :
    PE X (.Call (.Name n q) [] kws pos) (fun σ H Q => tk σ H fun zs H2 => zs.length = ks.length ∧ sp (gV [] zs) H2 Q E) := by
  refine ⟨fun pins s σ H Q I h => ?_⟩
  refine wpAny_Call_Name_kw (ld_glob I hg hm ?_ hdb)
  refine PySem.W.callWith_KW0 (h₀ := X.base) I.ok.mod.kin hk hall (thn (hkw.run pos pins s σ H _ I h) fun ws s2 ⟨zs, H2, I2, rz, l2, q2⟩ => ⟨I2.kIn, ?_⟩) hpl
  rw [hks]
  exact run_fnN F hr hb hx I2 .nil rz rfl l2 q2
/-- f(k = v, ..), names alone; pm puts the values in the parameters' order -/
theorem je_callK {γ : Type} {f : FS γ} {k lv : Nat} {fa : Addr} {fd : FuncData} {ps ks : List Str} {n : Str} {q : Pos} {xs : List Slot} {cs1 cs2 : List (Addr × Cel)} {g0 : List Value → List Value} {gV : List V → List V} (F : FnOk X.prog X.w X.K X.mg X.base CX0 k fa fd ps f.sp) (hr : Room lv X.A) (hlv : k ≤ lv) (hm : X.mg n = some (.ref fa)) (hk : PySem.W.keepIn X.K (.ref fa) = true) (hb : KBn X.K fd ps 0 ks (fun _ ws => g0 ws) (fun _ zs => gV zs))
    (ha : JK X B S kws S1 xs) (g : γ) (hpre : f.pre g) (hkl : xs.length = ks.length) (hx : ∀ {T : List Slot} {σ : St} {vs tv : List V} {H : Hp}, vs.length = xs.length → Sta B S1 (xs ++ T) σ (vs ++ tv) H → (gV vs).length = (f.args g).length ∧ Sta B S1 (f.args g ++ T) σ (gV vs ++ tv) H) (hpk : Pk S1.cs (f.cells g) cs1) (hpt : Pt cs1 (f.cells' g) cs2) (hG : ∀ G', Ex B.G G' → f.preG g G' := by exact fun _ _ => trivial) (hg : Gl X n := by rfl)
    (hall : (backToKw pos (keywordEach kws X.env)).all (·.1.isSome) = true := by rfl) (hks : (backToKw pos (keywordEach kws X.env)).filterMap (·.1) = ks := by rfl)
    (hdb : (n == ("__debug__" : Str)) = false := by decide)
    (hpl : ((backTo pos (starEach [] X.env)).any (·.1) || (backToKw pos (keywordEach kws X.env)).any (·.1.isNone)) = false := by rfl) :
    JE X B S (.Call (.Name n q) [] kws pos) ⟨S1.sl, cs2⟩ (f.res g) := fun T tv σ H Q h q =>
  pe1 (pe_callN0 F (hr.mono hlv) hg hm hk hb pass0 pk0 hall hks hdb hpl) (ha _ _ _ _ _ h fun vs H1 hl h1 => by
    obtain ⟨l3, h3⟩ := hx hl h1
    exact ⟨hl.trans hkl, sp_of f g hpre hG rfl l3 hpk hpt h3 q⟩)
end
theorem fn_okD {γ : Type} (f : FS γ) {P : Program} {w : World} {K : PySem.W.Frag} {mg : Str → Option Value} {base : Heap} {x qual : Str} {params : Arguments} {bd : List Stmt} {scope : Scope} {dvs : List V} {kwd : List (Str × V)} {fa : Addr} {fd : FuncData} {N ps : List Str} {lv : Nat} (F : FunD K x qual params bd scope dvs kwd fa fd) (sc : FnScope N ps scope) (hn : ∀ g, (f.args g).length = ps.length) (hp : ∀ g, ∀ s ∈ f.args g, s.plain = true)
    (body : ∀ (cdv : Value) (A : Around) (outer : List Env) (s : Shared) (H : Hp) (E : XK), Room lv (fctx P w K mg base N qual scope fa cdv A outer s H E).A → ∀ (B : Base) (g : γ), f.pre g → f.preG g B.G →
      JS (fctx P w K mg base N qual scope fa cdv A outer s H E) B ⟨f.args g ++ List.replicate (N.length - (f.args g).length) .any, f.cells g⟩ bd (fend B f g)) : FnOk P w K mg base CX0 (lv + 1) fa fd ps f.sp := by
  refine F.ok sc (fun vs H Q E h => ?_) (fun cdv A outer s H vs Q E hr h => ?_)
  · obtain ⟨g, B, _, _, hs, _⟩ := h
    obtain ⟨G, as, bs, z⟩ := hs
    rw [← hn g, z.tmp.len]
  · obtain ⟨g, B, hpre, hpg, hs, q⟩ := h
    refine ⟨tbOf (fctx P w K mg base N qual scope fa cdv A outer s H E) bd, PSs.nox pb0, ?_⟩
    refine tb_mono (body cdv A outer s H E hr B g hpre hpg [] [] _ H (hs.enter (hp g))) (fun σ H h => q _ _ h) (fun v H h => q _ _ h) (fun _ _ h => h.elim) (fun _ _ h => h.elim)
end J
namespace J
universe u w
open PySem L2
open PySem.W (Datum DatumOrd Holds HoldAll T3 T4 Tup)
/-! ### loops and joins whose states have addresses of their own (q) -/
/-- one of the states Sq -/
def toE {π : Type} (B : Base) (Sq : π → Stt) : FK := fun T tv σ H => ∃ q, Sta B (Sq q) T σ tv H
section
variable {X : Cx} {B : Base} {S S1 S2 S3 : Stt} {x y z : Slot} {a b e o : Expr} {es : List Expr} {pos apos : Pos} {D : FE} {rest : List Stmt} {kk : Nat} {tg : Expr}
theorem js_ifE {π : Type} {c : Expr} {th el : List Stmt} {p : Bool} {Sq : π → Stt} (hc : JT X B S c S1 p) (h1 : p = true → JS X B S1 th { D with nx := toE B Sq }) (h2 : p = false → JS X B S1 el { D with nx := toE B Sq }) (k : ∀ q, JS X B (Sq q) rest D) : JS X B S (.If c th el pos :: rest) D := by
  have mono : ∀ {st : List Stmt} {T tv σ H}, tbOf X st (({ D with nx := toE B Sq } : FE).at T tv) σ H → tbOf X st ((D.seq X rest).at T tv) σ H := fun {st T tv σ H} h => ⟨fun pins s I => thn (h.run pins s I) fun f s1 q => by
    cases f with
    | next =>
      obtain ⟨σ', H', I', w, q⟩ := q
      exact ⟨σ', H', I', k w _ _ _ _ q⟩
    | brk => exact q
    | cont => exact q
    | ret u => exact q⟩
  exact js_if hc (fun e => fun T tv σ H g => mono (h1 e T tv σ H g)) (fun e => fun T tv σ H g => mono (h2 e T tv σ H g))
theorem js_forE {π ι α : Type} [DecidableEq α] [Datum α] {xs : List α} {f : ι → α → Option ι} {Sf : π → ι → Stt} {Sb : π → ι → α → Stt} {s0 sE : ι} {tg iter : Expr} {body : List Stmt} {zs : List Slot} {ok : Stt → Prop} (hf : forM f xs s0 = some sE)
    (hi : JI X B S tg iter S1 zs (xs.map Slot.val) ok) (h0 : ∀ T tv σ H, Sta B S1 T σ tv H → ∃ q, Sta B (Sf q s0) T σ tv H) (hok : ∀ q s, ok (Sf q s))
    {ws : List Nat} (hg : ∀ q s x, JG X B (Sf q s) tg (.val x) (Sb q s x) ws) (hb : ∀ q s x s', x ∈ xs → f s x = some s' → JS X B (Sb q s x) body { nx := toE B fun q => Sf q s', rt := D.rt, ct := toE B fun q => Sf q s' })
    (k : ∀ q, JS X B (Sf q sE) rest D) (hc : X.calm = true := by rfl) (hp : PassesOwn (model X.prog X.w) X.A X.env X.xe := by exact PassesOwn.never) (hs : ∀ x, foldedSetIterable iter X.env x = pure x := by intro _; rfl) : JS X B S (.For tg iter body [] pos :: rest) D := by
  refine js_step (ps_for hp hc pi0 pg0 pb0 hs) fun T tv σ H h => hi _ _ _ _ _ h fun J zv H1 hl h1 wk => ?_
  refine ⟨fun i m σ H => m = xs.length - i ∧ i ≤ xs.length ∧ ∃ s, forM f (xs.drop i) s = some sE ∧ ∃ q, Sta B (Sf q s) (zs ++ T) σ (zv ++ tv) H, ⟨xs.length, by simp, Nat.zero_le _, s0, hf, h0 _ _ _ _ h1⟩, ?_⟩
  rintro i m σ H ⟨rfl, hle, s, hs', q, hS⟩
  by_cases hlt : i < xs.length
  · rw [List.drop_eq_getElem_cons hlt] at hs'
    refine bnd hs' fun s2 e1 e2 => .inr ?_
    have hx : (xs.map Slot.val)[i]? = some (Slot.val xs[i]) := by rw [List.getElem?_map, List.getElem?_eq_getElem hlt]; rfl
    obtain ⟨w1, w2⟩ := wk.go _ _ _ _ _ i _ (hok q s) hx hS
    refine ⟨w1, toE B (fun q => Sf q s2) (zs ++ T) (zv ++ tv), fun σ' H' g => ⟨xs.length - (i + 1), by omega, rfl, hlt, s2, e2, g⟩, fun v H' y => ?_⟩
    exact hg q s xs[i] _ _ _ _ _ _ (w2 v H' y) fun σ3 H3 _ g3 => ⟨fun pins st I => thn ((hb q s xs[i] s2 (List.getElem_mem hlt) e1 _ _ _ _ g3).run pins st I) fun fl s2 q => by
        cases fl with
        | next => exact q
        | cont => exact q
        | brk => obtain ⟨_, _, _, z⟩ := q; exact z.elim
        | ret u => exact q⟩
  · have e : i = xs.length := by omega
    subst e
    rw [List.drop_length] at hs'
    cases hs'
    have st := wk.stop _ _ _ _ _ (hok _ _) hS
    rw [List.length_map] at st
    exact .inl ⟨st, k q _ _ _ _ (Sta.drops hl hS)⟩
theorem js_forLE {π ι α ρ : Type} [DecidableEq α] [Datum α] {xs : List α} {f : ι → α → Option (Lp ι ρ)} {Sf : π → ι → Stt} {Sb : π → ι → α → Stt} {Rr : ρ → V → Hp → Prop} {s0 : ι} {sE : Sum ι ρ} {tg iter : Expr} {body : List Stmt} {zs : List Slot} {ok : Stt → Prop} (hf : forL f xs s0 = some sE)
    (hi : JI X B S tg iter S1 zs (xs.map Slot.val) ok) (h0 : ∀ T tv σ H, Sta B S1 T σ tv H → ∃ q, Sta B (Sf q s0) T σ tv H) (hok : ∀ q s, ok (Sf q s))
    {ws : List Nat} (hg : ∀ q s x, JG X B (Sf q s) tg (.val x) (Sb q s x) ws)
    (hb : ∀ q s x (o : Lp ι ρ), x ∈ xs → f s x = some o → JS X B (Sb q s x) body { nx := fun T tv σ H => ∃ s', o = .nx s' ∧ ∃ q, Sta B (Sf q s') T σ tv H, rt := fun v H => ∃ r, o = .rt r ∧ Rr r v H, ct := fun T tv σ H => ∃ s', o = .nx s' ∧ ∃ q, Sta B (Sf q s') T σ tv H, bk := fun T tv σ H => ∃ s', o = .bk s' ∧ ∃ q, Sta B (Sf q s') T σ tv H })
    (hr : ∀ r, sE = .inr r → ∀ v H, Rr r v H → D.rt v H) (k : ∀ s, sE = .inl s → ∀ q, JS X B (Sf q s) rest D) (hc : X.calm = true := by rfl) (hp : PassesOwn (model X.prog X.w) X.A X.env X.xe := by exact PassesOwn.never) (hs : ∀ x, foldedSetIterable iter X.env x = pure x := by intro _; rfl) : JS X B S (.For tg iter body [] pos :: rest) D := by
  refine js_step (ps_for hp hc pi0 pg0 pb0 hs) fun T tv σ H h => hi _ _ _ _ _ h fun J zv H1 hl h1 wk => ?_
  refine ⟨fun i m σ H => m = xs.length - i ∧ i ≤ xs.length ∧ ∃ s, forL f (xs.drop i) s = some sE ∧ ∃ q, Sta B (Sf q s) (zs ++ T) σ (zv ++ tv) H, ⟨xs.length, by simp, Nat.zero_le _, s0, hf, h0 _ _ _ _ h1⟩, ?_⟩
  rintro i m σ H ⟨rfl, hle, s, hs', q, hS⟩
  by_cases hlt : i < xs.length
  · rw [List.drop_eq_getElem_cons hlt] at hs'
    refine bnd hs' fun o e1 e2 => .inr ?_
    have hx : (xs.map Slot.val)[i]? = some (Slot.val xs[i]) := by rw [List.getElem?_map, List.getElem?_eq_getElem hlt]; rfl
    obtain ⟨w1, w2⟩ := wk.go _ _ _ _ _ i _ (hok q s) hx hS
    refine ⟨w1, fun σ' H' => ∃ s', o = .nx s' ∧ ∃ q, Sta B (Sf q s') (zs ++ T) σ' (zv ++ tv) H', ?_, fun v H' y => ?_⟩
    · rintro σ' H' ⟨s2, rfl, g⟩
      exact ⟨xs.length - (i + 1), by omega, rfl, hlt, s2, e2, g⟩
    · exact hg q s xs[i] _ _ _ _ _ _ (w2 v H' y) fun σ3 H3 _ g3 => ⟨fun pins st I => thn ((hb q s xs[i] o (List.getElem_mem hlt) e1 _ _ _ _ g3).run pins st I) fun fl s2 q => by
        cases fl with
        | next => exact q
        | cont => exact q
        | brk =>
          obtain ⟨σ', H', I', s', rfl, w, g⟩ := q
          cases e2
          exact ⟨σ', H', I', k s' rfl w _ _ _ _ (Sta.drops hl g)⟩
        | ret u =>
          obtain ⟨v', σ', H', I', rv, r, rfl, g⟩ := q
          cases e2
          exact ⟨v', σ', H', I', rv, hr r rfl _ _ g⟩⟩
  · have e : i = xs.length := by omega
    subst e
    rw [List.drop_length] at hs'
    cases hs'
    have st := wk.stop _ _ _ _ _ (hok _ _) hS
    rw [List.length_map] at st
    exact .inl ⟨st, k s rfl q _ _ _ _ (Sta.drops hl hS)⟩
/-- cell j goes to place k, what was there is dropped -/
theorem CsI.drop1 {G H : Hp} : ∀ {cs : List (Addr × Cel)} {bs : List Addr} (k : Nat), CsI G H cs bs → ∃ p0 ds, CsI G H (cs.set k (p0, .gone)) ds ∧ ds.Sublist bs
  | [], _, k, h => ⟨0, _, by simpa using h, List.Sublist.refl _⟩
  | (p, c) :: cs, bs, 0, h => by
    cases h with
    | gone h => exact ⟨p, _, .gone h, List.Sublist.refl _⟩
    | @cons _ _ o as _ b2 hp hc h => exact ⟨p, b2, .gone h, ((List.sublist_append_right as b2).trans (List.sublist_cons_self p _))⟩
  | (p, c) :: cs, bs, k + 1, h => by
    cases h with
    | gone h =>
      obtain ⟨p0, ds, h1, h2⟩ := CsI.drop1 k h
      exact ⟨p0, ds, .gone h1, h2⟩
    | @cons _ _ o as _ b2 hp hc h =>
      obtain ⟨p0, ds, h1, h2⟩ := CsI.drop1 k h
      exact ⟨p0, _, .cons hp hc h1, ((List.Sublist.refl as).append h2).cons_cons p⟩
theorem Sta.mv {T : List Slot} {σ : St} {tv : List V} {H : Hp} {p q : Addr} {c d : Cel} (h : Sta B S T σ tv H) (k j : Nat) (hk : S.cs[k]? = some (p, d)) (hj : S.cs[j]? = some (q, c)) (hg : c ≠ .gone) (hkj : k ≠ j) : Sta B ⟨S.sl, (S.cs.set k (q, c)).set j (q, .gone)⟩ T σ tv H := by
  obtain ⟨G, as, bs, z1, z2, z3, z4, z5, z6, z7, z8, z9⟩ := h
  obtain ⟨l, o, m, r, rfl, hq, hc, reb⟩ := z2.at j hj hg
  have g1 := (reb (Ex.refl G) fun _ _ => rfl).2 q
  obtain ⟨p0, ds, g2, sub⟩ := CsI.drop1 k g1
  have hkl : k < S.cs.length := (List.getElem?_eq_some_iff.mp hk).1
  obtain ⟨b, g3, pm⟩ := CsI.put1 (p := q) (q := p0) k g2 (by rw [List.getElem?_set_self (by rw [List.length_set]; exact hkl)]) hq hc
  rw [List.set_set, List.set_comm _ _ (Ne.symm hkj)] at g3
  have pm0 : (l ++ (q :: m) ++ r).Perm ((q :: m) ++ (l ++ r)) := by
    rw [← List.append_assoc]
    exact List.Perm.append_right _ List.perm_append_comm
  have p1 : (as ++ b).Perm (as ++ ((q :: m) ++ ds)) := List.Perm.append_left as pm
  have s1 : (as ++ ((q :: m) ++ ds)).Sublist (as ++ ((q :: m) ++ (l ++ r))) := (List.Sublist.refl as).append ((List.Sublist.refl (q :: m)).append sub)
  have p2 : (as ++ (l ++ (q :: m) ++ r)).Perm (as ++ ((q :: m) ++ (l ++ r))) := List.Perm.append_left as pm0
  exact ⟨G, as, b, z1, g3, z3, p1.nodup_iff.mpr (s1.nodup (p2.nodup_iff.mp z4)), fun a ha => z5 a (p2.mem_iff.mpr (s1.subset (p1.mem_iff.mp ha))), z6, z7, z8, z9⟩
theorem js_mv (k j : Nat) {p q : Addr} {c d : Cel} (hk : S.cs[k]? = some (p, d)) (hj : S.cs[j]? = some (q, c)) (h : JS X B ⟨S.sl, (S.cs.set k (q, c)).set j (q, .gone)⟩ rest D) (hg : c ≠ .gone := by nofun) (hkj : k ≠ j := by decide) : JS X B S rest D := fun T tv σ H hs => h T tv σ H (hs.mv k j hk hj hg hkj)
/-- whole numbers and None where either may stand -/
theorem je_some {α : Type} [DecidableEq α] [Datum α] [PySem.W.SomeDatum α] {t : α} (h : JE X B S e S1 (.val t)) : JE X B S e S1 (.val (some t)) := je_as h fun h => by
  cases h with
  | val h => exact .val (show Dq _ _ (Datum.toD (some t)) from h)
theorem je_nonO {α : Type} [DecidableEq α] [Datum α] [PySem.W.SomeDatum α] (h : JE X B S e S1 (.v .non)) : JE X B S e S1 (.val (none : Option α)) := je_as h fun h => by
  cases h with
  | v => exact .val (show Dq _ _ (Datum.toD (none : Option α)) from .non)
theorem je_get {α : Type} [DecidableEq α] [Datum α] [PySem.W.SomeDatum α] {r : Option α} {t : α} (h : JE X B S e S1 (.val r)) (hr : r = some t) : JE X B S e S1 (.val t) := je_as h fun h => by
  subst hr
  cases h with
  | val h => exact .val (show Dq _ _ (Datum.toD t) from h)
theorem je_mulR {i j : Int} (ha : JE X B S a S1 (.val i)) (hb : JE X B S1 b S2 (.val j)) (hc : -(2 ^ 64) < j ∧ j < 2 ^ 64) : JE X B S (.BinOp a .Mult b pos) S2 (.val (i * j)) := je_mul ha hb (.inr hc)
theorem je_mulL {i j : Int} (ha : JE X B S a S1 (.val i)) (hb : JE X B S1 b S2 (.val j)) (hc : -(2 ^ 64) < i ∧ i < 2 ^ 64) : JE X B S (.BinOp a .Mult b pos) S2 (.val (i * j)) := je_mul ha hb (.inl hc)
theorem je_lstv {α : Type} [DecidableEq α] [Datum α] {xs : List α} (ha : JA X B S es S1 (xs.map Slot.val)) (hl : xs.length ≤ 1000 := by exact Nat.le_of_ble_eq_true rfl) : JE X B S (.List es pos) S1 (.own (.lst (xs.map Slot.val))) := je_lst ha (by rw [List.length_map]; exact hl)
theorem je_let {α : Type} [DecidableEq α] [Datum α] {p q : α} (h : JE X B S e S1 (.val p)) (k : some p = some q) : JE X B S e S1 (.val q) := Option.some.inj k ▸ h
def Slot.nm : Slot → Addr → Slot
  | .own _, p => .v (.ref p)
  | .ownA q _, _ => .v (.ref q)
  | .otup _, _ => .any
  | s, _ => s
def Slot.ce : Slot → Addr → List (Addr × Cel)
  | .own c, p => [(p, c)]
  | .ownA q c, _ => [(q, c)]
  | _, _ => []
theorem sl_ownA {G H : Hp} {q : Addr} {c : Cel} {v : V} {as : List Addr} (h : SlI G H (.ownA q c) v as) : v = .ref q ∧ SlI G H (.own c) v as := by
  cases h with
  | ownA hp hc => exact ⟨rfl, .own hp hc⟩
theorem Sta.ownA {T : List Slot} {σ : St} {tv : List V} {H : Hp} {v : V} {q : Addr} {c : Cel} (h : Sta B S (.ownA q c :: T) σ (v :: tv) H) : v = .ref q ∧ Sta B S (.own c :: T) σ (v :: tv) H := by
  obtain ⟨G, as, bs, z⟩ := h
  have zt := z.tmp
  cases zt with
  | cons h1 h2 => exact ⟨(sl_ownA h1).1, G, _, bs, .cons (sl_ownA h1).2 h2, z.cel, z.slo, z.nod, z.fre, z.gro, z.new, z.sub, z.frm⟩
theorem Sta.nameG {T : List Slot} {σ : St} {tv : List V} {H : Hp} {v : V} (h : Sta B S (x :: T) σ (v :: tv) H) : ∃ p, Sta B ⟨S.sl, S.cs ++ x.ce p⟩ (x.nm p :: T) σ (v :: tv) H ∧ (x.nm p).plain = true := by
  cases x with
  | own c =>
    obtain ⟨p, rfl, h2⟩ := h.name
    exact ⟨p, h2, rfl⟩
  | ownA q c =>
    obtain ⟨rfl, h1⟩ := h.ownA
    obtain ⟨p, e, h2⟩ := h1.name
    cases e
    exact ⟨0, h2, rfl⟩
  | otup ss =>
    refine ⟨0, ?_, rfl⟩
    rw [show S.cs ++ (Slot.otup ss).ce 0 = S.cs from List.append_nil _]
    exact h.drop.push fun _ _ => .any
  | any => exact ⟨0, by rw [show S.cs ++ Slot.any.ce 0 = S.cs from List.append_nil _]; exact h, rfl⟩
  | v w => exact ⟨0, by rw [show S.cs ++ (Slot.v w).ce 0 = S.cs from List.append_nil _]; exact h, rfl⟩
  | val t => exact ⟨0, by rw [show S.cs ++ (Slot.val t).ce 0 = S.cs from List.append_nil _]; exact h, rfl⟩
  | say φ => exact ⟨0, by rw [show S.cs ++ (Slot.say φ).ce 0 = S.cs from List.append_nil _]; exact h, rfl⟩
/-- a, b = e1, e2: new things get cells -/
theorem js_parG (i j : Nat) {n m : Str} {px py pt pt2 : Pos} {kt k2 : Nat} (ha : JE X B S a S1 x) (hb : JE X B S1 b S2 y) (k : ∀ p q, JS X B ⟨(S2.sl.set i (x.nm p)).set j (y.nm q), (S2.cs ++ x.ce p) ++ y.ce q⟩ rest D) (hN : X.N.Nodup := by assumption) (hi : X.N[i]? = some n := by rfl) (hj : X.N[j]? = some m := by rfl) (hij : i ≠ j := by decide)
    (hlx : X.env.scope.names.lookup n = some .local := by rfl) (hly : X.env.scope.names.lookup m = some .local := by rfl) (hw : swappedStores [.Tuple [.Name n px, .Name m py] kt pt] (.Tuple [a, b] k2 pt2) X.env = pure (some [n, m]) := by rfl) (hs : swapsWithSole [.Tuple [.Name n px, .Name m py] kt pt] (.Tuple [a, b] k2 pt2) pos.line X.env = pure false := by rfl) (hc : X.calm = true := by rfl)
    (hst : starEach [a, b] X.env = (false, eval a X.env) :: starEach [b] X.env := by rfl) (hst2 : starEach [b] X.env = (false, eval b X.env) :: starEach [] X.env := by rfl) : JS X B S (.Assign [.Tuple [.Name n px, .Name m py] kt pt] (.Tuple [a, b] k2 pt2) pos :: rest) D :=
  js_step (ps_par hc hN hi hj hij hlx hly pa0 hw hs) fun T tv σ H h => ja_cons ha (ja_cons hb ja_nil hst2) hst _ _ _ _ _ h fun vs H1 hl h1 => by
    obtain ⟨v, u, rfl⟩ : ∃ v u, vs = [v, u] := match vs, hl with | [v, u], _ => ⟨v, u, rfl⟩
    refine ⟨v, u, rfl, ?_⟩
    obtain ⟨p, h2, hp⟩ := Sta.nameG (show Sta B S2 (x :: ([y] ++ T)) σ (v :: ([u] ++ tv)) H1 from h1)
    obtain ⟨q, h3, hq⟩ := Sta.nameG (show Sta B _ (y :: T) _ (u :: tv) H1 from h2.set hp i)
    exact k p q _ _ _ _ (h3.set hq j)
/-- a body's end without return -/
theorem js_fin {γ : Type} {f : FS γ} {g : γ} (n : Nat) (hc : S.cs.take n = f.cells' g) (hx : f.res g = .v .non) : JS X B S [] (fend B f g) := js_nil fun T tv σ H hs => by
  have h := Out.take n (Sta.only (hs.push (x := .v .non) fun _ _ => .v))
  show Out B (f.res g) (f.cells' g) .non H
  rw [hx, ← hc]
  exact h
theorem js_loopEnd {π ι : Type} {Sq : π → ι → Stt} {s' : ι} (n : Nat) (q : π) (f : Fgt S.sl (Sq q s').sl) (hc : S.cs.take n = (Sq q s').cs) (hD : D.nx = toE B fun q => Sq q s') : JS X B S [] D := js_nil fun T tv σ H h => by
  show D.nx T tv σ H
  rw [hD]
  exact ⟨q, le_fgt (sl := (Sq q s').sl) (cs := (Sq q s').cs) n f hc _ _ _ _ h⟩
end
def Slot.isAny : Option Slot → Bool
  | some .any => true
  | none => true
  | _ => false
theorem any_at {sl : List Slot} {vs : List Nat} (h : (vs.all fun i => Slot.isAny sl[i]?) = true) : AnyAt sl vs := fun i hi s hs => by
  have := List.all_eq_true.mp h i hi
  rw [hs] at this
  cases s with
  | any => rfl
  | v w => cases this
  | val t => cases this
  | own c => cases this
  | ownA _ c => cases this
  | otup _ => cases this
  | say φ => cases this
theorem sql_mono {K : PySem.W.Frag} {G G' : Hp} {a : Addr} {xs : List V} (h : SqL K G a xs) (e : Ex G G') : SqL K G' a xs := by
  rcases h with (h | ⟨o, h⟩) | h
  · exact .inl (.inl (e _ _ h))
  · exact .inl (.inr ⟨o, e _ _ h⟩)
  · exact .inr h
theorem inJE {Y : Cx} {B : Base} {S S' : Stt} {e : Expr} {x : Slot} {k : Nat} (hr : Room k Y.A) (hN : Y.N.Nodup) (f : Room k Y.A → Y.N.Nodup → JE Y B S e S' x) : JE Y B S e S' x := f hr hN
theorem inJTs {Y : Cx} {B : Base} {S S' : Stt} {es : List Expr} {p : Bool} {k : Nat} (hr : Room k Y.A) (hN : Y.N.Nodup) (f : Room k Y.A → Y.N.Nodup → JTs Y B S es S' p) : JTs Y B S es S' p := f hr hN
theorem inJG {Y : Cx} {B : Base} {S S' : Stt} {tg : Expr} {x : Slot} {ws : List Nat} (hN : Y.N.Nodup) (f : Y.N.Nodup → JG Y B S tg x S' ws) : JG Y B S tg x S' ws := f hN
end J
namespace J
universe u w
open PySem L2
open PySem.W (Datum DatumOrd Holds HoldAll T3 T4 Tup)
/-! ### lists of parts of their own kinds; insert, clear, reverse of data -/
section
end
end J
namespace J
open PySem PySem.Spec PyProof.Rows L2
open PySem.W (Datum)
/-! ### set(xs) of whole numbers, however many; len and sorted of it -/
section
end
/-! what is told: the numbers, each once, rising -/
/-! ### as expressions -/
section
end
/-! typed -/
section
end
end J
namespace J
universe u w
open PySem L2
open PySem.W (Datum DatumOrd Holds HoldAll T3 T4 Tup)
/-! ### a tuple's part by a written number; tuple(xs) -/
theorem dqAll_get {G : Hp} : ∀ {vs : List V} {ds : List PyData} (j : Nat) {d : PyData}, DqAll G vs ds → ds[j]? = some d → ∃ u, vs[j]? = some u ∧ Dq G u d
  | _, _, _, _, .nil, h => by simp at h
  | _, _, 0, _, .cons h1 _, h => by cases h; exact ⟨_, rfl, h1⟩
  | _, _, j + 1, _, .cons _ h2, h => dqAll_get j h2 h
theorem dqAll_len {G : Hp} : ∀ {vs : List V} {ds : List PyData}, DqAll G vs ds → vs.length = ds.length
  | _, _, .nil => rfl
  | _, _, .cons _ h => congrArg Nat.succ (dqAll_len h)
section
variable {X : Cx} {B : Base} {S S1 S2 S3 : Stt} {x y z : Slot} {a b e o : Expr} {es : List Expr} {pos apos : Pos} {kk : Nat}
theorem je_tpix {α β : Type} [DecidableEq α] [Datum α] [DecidableEq β] [Datum β] {t : α} {r : β} {ds : List PyData} {i : Int} (ha : JE X B S a S1 (.val t)) (hb : JE X B S1 b S2 (.val i)) (ht : Datum.toD t = .tuple ds) (hi : gx ds i = some (Datum.toD r)) (hs : PlainIx b := by exact fun _ _ => rfl) : JE X B S (.Subscript a b pos) S2 (.val r) := fun T tv σ H Q h q =>
  pe1 (pe_ix ix_tup pe0 pe0 hs) (ha _ _ _ _ _ h fun v H1 h1 => hb _ _ _ _ _ h1 fun u H2 h2 => by
    have e := h2.int
    subst e
    obtain ⟨G, as, bs, z⟩ := h2.drop
    obtain ⟨a1, a2, rfl, g1, z'⟩ := z.pop
    have hx := sl_dq g1
    rw [ht] at hx
    cases hx with
    | @tup l vs0 _ hH hd =>
      rw [gx_ixp] at hi
      cases hj : ixp ds.length i with
      | none => rw [hj] at hi; cases hi
      | some j =>
        rw [hj] at hi
        obtain ⟨w, hw, dw⟩ := dqAll_get j hd hi
        refine ⟨l, vs0, i, w, rfl, rfl, .inl (.inl (z'.sub _ _ hH)), ?_, q w H2 (z'.push (.val dw))⟩
        rw [atI_gx, gx_ixp, dqAll_len hd, hj]
        exact hw)
end
theorem bndE {α β : Type} {m : Option α} {f : α → Option β} {r : β} (h : m.bind f = some r) : ∃ x, m = some x ∧ f x = some r := by
  cases m with
  | none => cases h
  | some x => exact ⟨x, rfl, h⟩
end J
namespace J
open PySem PySem.Spec PyProof.Rows L2
open PySem.W (Datum Tup)
section
variable {X : Cx} {B : Base} {S S1 S2 S3 : Stt} {x y z : Slot} {a b e o : Expr} {es : List Expr} {pos apos : Pos} {D : FE} {rest : List Stmt} {kk : Nat} {tg : Expr} {p : Addr}
/-! ### xs * n -/
/-! ### comprehensions over items of several kinds -/
def e2 {α β : Type} [DecidableEq α] [Datum α] [DecidableEq β] [Datum β] : Sum α β → Slot
  | .inl x => .val x
  | .inr x => .val x
end
end J
namespace J
open PySem PySem.Spec PyProof.Rows L2
open PySem.W (Datum Tup)
/-! ### dicts by whole numbers -/
abbrev dks {β : Type} (m : List (Int × β)) : List Key := m.map fun q => Sum.inl q.1
abbrev dss {β : Type} [DecidableEq β] [Datum β] (m : List (Int × β)) : List Slot := m.map fun q => Slot.val q.2
def dget {β : Type} (m : List (Int × β)) (k : Int) : Option β := (m.find? fun q => decide (q.1 = k)).map (·.2)
def dhas {β : Type} (m : List (Int × β)) (k : Int) : Bool := (dget m k).isSome
def dput {β : Type} (m : List (Int × β)) (k : Int) (v : β) : List (Int × β) := if (m.any fun q => decide (q.1 = k)) = true then m.map (fun q => if q.1 = k then (q.1, v) else q) else m ++ [(k, v)]
def dputG {β : Type} (m : List (Int × β)) (k : Int) (v : β) : Option (List (Int × β)) := if m.length < 16777216 then some (dput m k v) else none
section
variable {β : Type} [DecidableEq β] [Datum β] {G H : Hp}
theorem dget_rel (k : Int) : ∀ {m : List (Int × β)} {gs : List (Key × V)} {as : List Addr}, dks m = gs.map (·.1) → SsI G H (dss m) (gs.map (·.2)) as → (dget m k = none ∧ valV gs (Sum.inl k) = none) ∨ ∃ t u, dget m k = some t ∧ valV gs (Sum.inl k) = some u ∧ SlI G H (.val t) u []
  | [], [], _, _, _ => .inl ⟨rfl, rfl⟩
  | [], _ :: _, _, h, _ => by simp [dks] at h
  | _ :: _, [], _, h, _ => by simp [dks] at h
  | q :: m, g :: gs, as, h, hs => by
    have h1 : (Sum.inl q.1 : Key) = g.1 := (List.cons.inj h).1
    have h2 : dks m = gs.map (·.1) := (List.cons.inj h).2
    cases hs with
    | cons s1 hs =>
      by_cases e : q.1 = k
      · have hg : g.1 = Sum.inl k := by rw [← h1, e]
        obtain rfl := SlI.nil s1 rfl
        refine .inr ⟨q.2, g.2, ?_, valV_pos hg, s1⟩
        unfold dget
        rw [List.find?_cons, decide_eq_true e]
        rfl
      · have hg : ¬ g.1 = Sum.inl k := by rw [← h1]; exact fun q2 => e (Sum.inl.inj q2)
        rw [valV_neg hg]
        have : dget (q :: m) k = dget m k := by
          unfold dget
          rw [List.find?_cons, decide_eq_false e]
        rw [this]
        exact dget_rel k h2 hs
theorem any_rel (k : Int) : ∀ {m : List (Int × β)} {gs : List (Key × V)}, dks m = gs.map (·.1) → (gs.any fun kv => decide (kv.1 = Sum.inl k)) = m.any fun q => decide (q.1 = k)
  | [], [], _ => rfl
  | [], _ :: _, h => by simp [dks] at h
  | _ :: _, [], h => by simp [dks] at h
  | q :: m, g :: gs, h => by
    have h1 : (Sum.inl q.1 : Key) = g.1 := (List.cons.inj h).1
    rw [List.any_cons, List.any_cons, any_rel k (List.cons.inj h).2, ← h1]
    congr 1
    rw [decide_eq_decide]
    exact ⟨Sum.inl.inj, fun e => by rw [e]⟩
theorem set_rel (k : Int) {v : β} {u : V} (hv : SlI G H (.val v) u []) : ∀ {m : List (Int × β)} {gs : List (Key × V)} {as : List Addr}, dks m = gs.map (·.1) → SsI G H (dss m) (gs.map (·.2)) as → dks (m.map fun q => if q.1 = k then (q.1, v) else q) = (gs.map fun kv => if kv.1 = Sum.inl k then (kv.1, u) else kv).map (·.1) ∧ SsI G H (dss (m.map fun q => if q.1 = k then (q.1, v) else q)) ((gs.map fun kv => if kv.1 = Sum.inl k then (kv.1, u) else kv).map (·.2)) []
  | [], [], _, _, _ => ⟨rfl, .nil⟩
  | [], _ :: _, _, h, _ => by simp [dks] at h
  | _ :: _, [], _, h, _ => by simp [dks] at h
  | q :: m, g :: gs, as, h, hs => by
    have h1 : (Sum.inl q.1 : Key) = g.1 := (List.cons.inj h).1
    cases hs with
    | cons s1 hs =>
      obtain ⟨i1, i2⟩ := set_rel k hv (List.cons.inj h).2 hs
      simp only [List.map_cons] at i1 i2 ⊢
      by_cases e : q.1 = k
      · have hg : g.1 = Sum.inl k := by rw [← h1, e]
        rw [if_pos e, if_pos hg]
        exact ⟨congr (congrArg List.cons h1) i1, .cons (as := []) hv i2⟩
      · have hg : ¬ g.1 = Sum.inl k := by rw [← h1]; exact fun q2 => e (Sum.inl.inj q2)
        rw [if_neg e, if_neg hg]
        obtain rfl := SlI.nil s1 rfl
        exact ⟨congr (congrArg List.cons h1) i1, .cons (as := []) s1 i2⟩
theorem put_rel (k : Int) {v : β} {u : V} (hv : SlI G H (.val v) u []) {m : List (Int × β)} {gs : List (Key × V)} (h : dks m = gs.map (·.1)) (hs : SsI G H (dss m) (gs.map (·.2)) []) : dks (dput m k v) = (putK gs (Sum.inl k) u).map (·.1) ∧ SsI G H (dss (dput m k v)) ((putK gs (Sum.inl k) u).map (·.2)) [] := by
  unfold dput putK
  rw [any_rel k h]
  by_cases c : (m.any fun q => decide (q.1 = k)) = true
  · rw [if_pos c, if_pos c]
    exact set_rel k hv h hs
  · rw [if_neg c, if_neg c]
    refine ⟨by unfold dks at h ⊢; rw [List.map_append, List.map_append, h]; rfl, ?_⟩
    show SsI G H (List.map _ (m ++ [(k, v)])) _ _
    rw [List.map_append, List.map_append]
    exact SsI.app hs (.cons (as := []) hv .nil)
theorem dss_plain (m : List (Int × β)) : ∀ s ∈ dss m, s.plain = true := fun s hs => by
  obtain ⟨q, _, rfl⟩ := List.mem_map.mp hs
  rfl
end
section
variable {X : Cx} {B : Base} {S S1 S2 S3 : Stt} {x y z : Slot} {a b e o : Expr} {es : List Expr} {pos apos : Pos} {D : FE} {rest : List Stmt} {kk : Nat} {tg : Expr} {p : Addr} {β : Type} [DecidableEq β] [Datum β] {m : List (Int × β)} {key : Int}
theorem Sta.dgetI {T : List Slot} {σ : L2.St} {tv : List V} {H : Hp} (h : Sta B S T σ tv H) (k : Nat) (hk : S.cs[k]? = some (p, .dk (dks m) (dss m))) : ∃ o : Option V, DGet H p (.int key) o ∧ o.isSome = dhas m key ∧ ∀ t, dget m key = some t → ∃ u, o = some u ∧ Sta B S (.val t :: T) σ (u :: tv) H := by
  obtain ⟨G, as, bs, z⟩ := h
  obtain ⟨oo, mm, hpp, hc, _, _, _, _⟩ := z.cellW hk (by intro e; cases e)
  cases hc with
  | @dk _ _ gs _ hks hss =>
    refine ⟨valV gs (Sum.inl key), DGet.k (k := Sum.inl key) hpp, ?_, fun t ht => ?_⟩
    · rcases dget_rel key hks hss with ⟨e1, e2⟩ | ⟨t, u, e1, e2, _⟩
      · unfold dhas; rw [e1, e2]; rfl
      · unfold dhas; rw [e1, e2]; rfl
    · rcases dget_rel key hks hss with ⟨e1, e2⟩ | ⟨t', u, e1, e2, su⟩
      · rw [e1] at ht; cases ht
      · rw [e1] at ht
        cases ht
        exact ⟨u, e2, z.push su⟩
/-- d[i] -/
theorem je_dgetI (k : Nat) {t : β} {i : Expr} (hr : Room kk X.A) (ho : JE X B S o S1 (.v (.ref p))) (hi : JE X B S1 i S2 (.val key)) (hk : S2.cs[k]? = some (p, .dk (dks m) (dss m))) (ht : dget m key = some t) (hns : NoSl i := by exact fun _ _ => rfl) : JE X B S (.Subscript o i pos) S2 (.val t) := fun T tv σ H Q h q =>
  pe1 (pe_dget (hu_of hr) pe0 pe0 hns) (ho _ _ _ _ _ h fun v1 H1 h1 => by
    have e := h1.exact
    subst e
    refine hi _ _ _ _ _ h1 fun v2 H2 h2 => ?_
    have e := h2.int
    subst e
    obtain ⟨o, hd, _, f⟩ := h2.drop.drop.dgetI (key := key) k hk
    obtain ⟨u, rfl, h3⟩ := f t ht
    exact ⟨p, u, rfl, hd, q _ _ h3⟩)
theorem small16 {n : Nat} (h : n < 16777216) : n < sizeLine := by rw [sizeLine_eq]; omega
/-- d[i] = e -/
theorem js_dputI (k : Nat) {t : β} {m' : List (Int × β)} {i : Expr} {pos' : Pos} (hr : Room kk X.A) (he : JE X B S e S1 (.val t)) (ho : JE X B S1 o S2 (.v (.ref p))) (hi : JE X B S2 i S3 (.val key)) (hk : S3.cs[k]? = some (p, .dk (dks m) (dss m))) (hm : dputG m key t = some m') (kx : JS X B ⟨S3.sl, S3.cs.set k (p, .dk (dks m') (dss m'))⟩ rest D)
    (hs : swapsWith e (some (.Subscript o i pos')) pos.line X.env = pure false := by rfl) : JS X B S (.Assign [.Subscript o i pos'] e pos :: rest) D :=
  js_step (ps_dput (hu_of hr) pe0 pe0 pe0 hs) fun T tv σ H h => he _ _ _ _ _ h fun v H1 h1 => ho _ _ _ _ _ h1 fun w1 H2 h2 => by
    have e := h2.exact
    subst e
    refine hi _ _ _ _ _ h2 fun w2 H3 h3 => ?_
    have e := h3.int
    subst e
    obtain ⟨G, as, bs, z0⟩ := h3.drop.drop
    obtain ⟨a1, a2, rfl, hs1, z⟩ := z0.pop
    obtain rfl := hs1.nil rfl
    obtain ⟨oo, mm, hpp, hc, _, hm1, _, reb⟩ := z.cellW hk (by intro e; cases e)
    cases hc with
    | @dk _ _ gs _ hks hss =>
      obtain rfl := hss.plain (dss_plain m)
      unfold dputG at hm
      split at hm
      · rename_i hlt
        cases hm
        have hlen : gs.length = m.length := by
          have := congrArg List.length hks
          rw [List.length_map, List.length_map] at this
          exact this.symm
        obtain ⟨e1, e2⟩ := put_rel key hs1 hks hss
        have hnew : CeI G (upd H3 p (.dK (putK gs (Sum.inl key) v))) (.dk (dks (dput m key t)) (dss (dput m key t))) (.dK (putK gs (Sum.inl key) v)) [] := .dk e1 (SsI.mono e2 (Ex.refl G) fun a ha => nomatch ha)
        obtain ⟨bs', z3⟩ := reb hnew (List.Sublist.refl _)
        exact ⟨p, _, rfl, DPut.k (k := Sum.inl key) hpp (small16 (by omega)), kx _ _ _ _ z3.sta⟩
      · cases hm
end
/-! ### xs[::-1]; isinstance of data -/
section
variable {X : Cx} {B : Base} {S S1 S2 S3 : Stt} {x y z : Slot} {a b e o : Expr} {es : List Expr} {pos apos : Pos} {D : FE} {rest : List Stmt} {kk : Nat}
theorem je_bty {n : Str} {id : String} (hm : X.mg n = none) (hv : bootBuiltins n = some (.type id)) (hg : Gl X n := by rfl) (hn : n ≠ "__name__" := by decide) (hd : (n == ("__debug__" : Str)) = false := by decide) : JE X B S (.Name n pos) S (.v (.ty id)) := fun T tv σ H Q h q =>
  pe1 (pe_bltn hg hm hv (show RelV (.ty id) (.type id) from rfl) hn hd) (q _ _ (h.push fun _ _ => .v))
/-- {}, a dict by whole numbers -/
theorem je_disp0 {β : Type} [DecidableEq β] [Datum β] : JE X B S (.Dict [] [] pos) S (.own (.dk (dks ([] : List (Int × β))) (dss ([] : List (Int × β))))) := fun T tv σ H Q hs q =>
  pe1 pe_dnewK (fun p hp => by
    obtain ⟨G, as, bs, z⟩ := hs
    exact q _ _ (z.newO hp (.dk rfl .nil)))
end
end J
namespace J
open PySem PySem.Spec PyProof.Rows L2
open PySem.W (Datum Tup)
def ddrop {β : Type} (m : List (Int × β)) (k : Int) : List (Int × β) := m.filter fun q => decide (q.1 ≠ k)
section
end
section
variable {X : Cx} {B : Base} {S S1 S2 S3 : Stt} {x y z : Slot} {a b c e o : Expr} {es : List Expr} {pos apos cpos : Pos} {D : FE} {rest : List Stmt} {kk : Nat} {tg : Expr} {p : Addr} {β : Type} [DecidableEq β] [Datum β] {m : List (Int × β)} {key : Int}
/-! ### a dict that is walked -/
def Stt.frz (S : Stt) (k : Nat) (p : Addr) (ob : Obj) (gs : List (Key × V)) (ss : List Slot) : Stt := ⟨S.sl, S.cs.set k (p, .fdk ob gs ss)⟩
/-! ### sorted -/
def leP (a b : Int × Int) : Bool := decide (a.1 < b.1 ∨ (a.1 = b.1 ∧ a.2 ≤ b.2))
def sortP (xs : List (Int × Int)) : List (Int × Int) := xs.mergeSort leP
/-! ### list(range(a, b, c)) -/
/-! ### isinstance -/
/-- whatever stands for x, its type answers r -/
def Ty (K : PySem.W.Frag) (B : Base) (S : Stt) (x : Slot) (ans : String → Option Bool) : Prop := ∀ {T : List Slot} {σ : L2.St} {v : V} {tv : List V} {H G : Hp} {as bs : List Addr}, St0 B S (x :: T) σ (v :: tv) H G as bs → ∃ t : String, TyX K H v (.type t) ∧ ∀ id r, ans id = some r → kitB t id = some r
theorem ty_of {K : PySem.W.Frag} {t : String} {ans : String → Option Bool} (h : ∀ {T : List Slot} {σ : L2.St} {v : V} {tv : List V} {H G : Hp} {as bs : List Addr}, St0 B S (x :: T) σ (v :: tv) H G as bs → TyX K H v (.type t)) (ha : ∀ id r, ans id = some r → kitB t id = some r) : Ty K B S x ans := fun z => ⟨t, h z, ha⟩
/-- the answers of a type to the ones that are asked for -/
def ansOf (t : String) (id : String) : Option Bool := if id = "bool" ∨ id = "int" ∨ id = "str" ∨ id = "list" ∨ id = "tuple" then kitB t id else none
theorem ansOf_ok (t : String) : ∀ id r, ansOf t id = some r → kitB t id = some r := fun id r h => by
  unfold ansOf at h
  split at h
  · exact h
  · cases h
theorem ty_lst {K : PySem.W.Frag} {ss : List Slot} (h : Lh B S x ss) : Ty K B S x (ansOf "list") := ty_of (t := "list") (fun z => by
  obtain ⟨p, vs, rfl, hp, _⟩ := h z
  exact .base (.lst hp)) (ansOf_ok _)
theorem je_isiG {q : Pos} {id : String} {r : Bool} {ans : String → Option Bool} (hm : X.mg "isinstance" = none) (ha : JE X B S a S1 x) (hb : JE X B S1 b S2 (.v (.ty id))) (hx : Ty X.K B S2 x ans) (hr : ans id = some r := by decide +kernel) (hg : Gl X "isinstance" := by rfl) (hst : starEach [a, b] X.env = (false, eval a X.env) :: starEach [b] X.env := by rfl) (hst2 : starEach [b] X.env = (false, eval b X.env) :: starEach [] X.env := by rfl) (hpl : (backTo pos (starEach [b] X.env)).any (·.1) = false := by rfl) : JE X B S (.Call (.Name "isinstance" q) [a, b] [] pos) S2 (.val r) :=
  je_callB call_isi hm PyProof.Rows.boot_isinstance (ja_cons ha (ja_cons hb ja_nil hst2) hst) (oc2 fun T tv σ v u H Q hs q => by
    have e2 := hs.drop.exact
    subst e2
    have ty : ∃ t : String, TyX X.K H v (.type t) ∧ ∀ id r, ans id = some r → kitB t id = some r := by
      obtain ⟨G, as, bs, z⟩ := (show Sta B S2 (x :: .v (.ty id) :: T) σ (v :: .ty id :: tv) H from hs)
      exact hx z
    obtain ⟨t, h1, h2⟩ := ty
    exact ⟨_, _, _, _, r, rfl, .ty id, h1, kit_ty (h2 id r hr), q _ _ (hs.drop.drop.push fun _ _ => sl_bl _)⟩) hg (by decide) (by decide) hst hpl
end
end J
namespace J
open PySem PySem.Spec PyProof.Rows L2
open PySem.W (Datum Tup)
/-! ### objects of classes: fields -/
section
end
section
/-! ### calls of methods, objects made -/
/-! ### globals, tuples of texts, conditional expressions known ahead -/
end
end J
namespace J
open PySem PySem.Spec PyProof.Rows L2
open PySem.W (Datum Tup)
/-! ### values put in another order -/
section
end
end J
namespace J
open PySem PySem.Spec PyProof.Rows L2
open PySem.W (Datum Tup)
section
end
end J
namespace J
open PySem L2
open PySem.Spec PyProof.Rows
open PySem.W (Datum)
/-! ### a zip whose handed out tuple is kept by somebody: at z, with any marks -/
section
end
section
end
end J
namespace J
open PySem L2
open PySem.W (Datum)
/-! ### refusals: made, raised, passed on, caught, held behind the suite -/
def ExA (a : Addr) (cls : Value) (d : Option Addr) : Heap → Prop := fun h => ∃ oe vs, h.get? a = some oe ∧ oe.cls = cls ∧ oe.dict = d ∧ oe.data = .fields vs ∧ vs[2]? = some .none
end J
namespace J
open PySem PySem.Spec PyProof.Rows L2
section
end
end J
namespace J
open PySem L2
open PySem.W (Datum)
abbrev exa (a : Addr) (cls : Value) (d : Option Addr) : HO := .ext (ExA a cls d)
section
variable {α : Type} [DecidableEq α] [Datum α]
/-- a refusal of the class at C, that bears w -/
def Xc (C : Addr) (w : α) : Hp → V → Prop := fun G u => ∃ (a d : Addr) (v : V), u = .ref a ∧ G a = some (exa a (.ref C) (some d)) ∧ G d = some (.xd [(("what" : Str), v)]) ∧ Dq G v (Datum.toD w)
end
/-! the maker -/
section
end
/-! a def that refuses -/
section
end
end J
namespace J
open PySem L2
open PySem.W (Datum)
section
end
section
end
end J
namespace J
open PySem L2
open PySem.W (Datum)
/-! ### try at states; what a refusal tells -/
section
end
section
variable {α : Type} [DecidableEq α] [Datum α]
/-- a refusal by name: those that there are, where their classes stand -/
structure Xw where
  ns : List Str
  xc : Str → Addr
def XcN (K : Xw) (x : Str × α) : Hp → V → Prop := fun G u => x.1 ∈ K.ns ∧ Xc (K.xc x.1) x.2 G u
def xsl (K : Xw) : Option (Str × α) → Slot
  | none => .v .non
  | some x => .say (XcN K x)
section
end
end
end J
namespace J
open PySem L2
open PySem.W (Datum)
/-! ### isinstance and .what of a refusal -/
section
end
section
end
/-- names that stand for classes -/
inductive NmL (X : Cx) : List Expr → List V → List Value → Prop where
  | nil : NmL X [] [] []
  | own {n : Str} {p : Pos} {C : Addr} {es : List Expr} {cs : List V} {us : List Value} (hg : Gl X n) (hm : X.mg n = some (.ref C)) (hd : (n == ("__debug__" : Str)) = false) (r : NmL X es cs us) : NmL X (.Name n p :: es) (.ref C :: cs) (.ref C :: us)
theorem NmL.cls {X : Cx} {es : List Expr} {cs : List V} {us : List Value} (h : NmL X es cs us) : Paired ClsV cs us := by
  induction h with
  | nil => exact .nil
  | own _ _ _ _ ih => exact .cons (.own _) ih
theorem NmL.len {X : Cx} {es : List Expr} {cs : List V} {us : List Value} (h : NmL X es cs us) : cs.length = es.length := by
  induction h with
  | nil => rfl
  | own _ _ _ _ ih => exact congrArg Nat.succ ih
abbrev Xw.all (K : Xw) : List Str := ("PageError" : Str) :: K.ns
section
section
end
end
end J
namespace J
open PySem L2
open PySem.W (Datum)
/-! ### the head's part: what the written part says of the refusals, asked once -/
abbrev oo (a b : Option (Option Value)) : Bool := decide (a = b)
end J
namespace J
open PySem L2
open PySem.W (Datum)
/-! ### try and refusals in the mirrors -/
theorem xsl_plain {α : Type} [DecidableEq α] [Datum α] {K : Xw} {o : Option (Str × α)} : (xsl K o).plain = true := by cases o <;> rfl
end J
namespace J
open PySem L2 LamX
open PySem.Spec PyProof.Rows
open PySem.W (Datum)
/-! ### a lambda of one parameter -/
/-- one parameter, no other name of its own: captured ones and globals -/
structure LamP (sc scope : Scope) (p : Str) : Prop where
  kind : scope.kind = .function
  co : scope.isCoroutine = false
  gen : scope.isGenerator = false
  par : scope.names.lookup p = some .local
  own : ∀ y ∈ scope.names, (y.2 = .local → y.1 = p) ∧ y.2 ≠ .cell
  free : ∀ y ∈ scope.names, y.2 = .free → sc.names.lookup y.1 = some .cell ∨ sc.names.lookup y.1 = some .free
section
variable {X : Cx} {pins : List (Addr × Obj)} {σ : L2.St} {H : Hp} {s : Shared}
theorem LamP.has {scope : Scope} {p : Str} (L : LamP X.env.scope scope p) (ok : X.Ok) : ∀ y ∈ scope.names, y.2 = .free → ∃ c, X.env.cells.lookup y.1 = some c := fun y hy e => by
  rcases L.free y hy e with k | k
  · exact ok.has _ (.inl k)
  · exact ok.has _ (.inr k)
end
end J
namespace J
open PySem L2 LamX
open PySem.Spec PyProof.Rows
open PySem.W (Datum)
/-! ### a lambda as a value; the table of code objects as a cell -/
section
end
end J
namespace J
open PySem L2 LamX
open PySem.Spec PyProof.Rows
open PySem.W (Datum)
/-! ### max(xs, key=f): the turns -/
section
variable {X : Cx} {pins : List (Addr × Obj)} {σ : L2.St} {Ψ : Hp → Prop} {ws : List V} {kf : Nat → Int} {l f I S : Addr} {R : Result → Shared → Prop}
theorem two_moved {H : Hp} {s : Shared} {g : Heap} {tk : Nat} (V : Inv X pins σ H s) (fI : FpOk X pins H I) (fS : FpOk X pins H S) (k : ∀ b o, b ≠ I → b ≠ S → s.heap.get? b = some o → g.get? b = some o) : Inv X pins σ H { s with heap := g, toks := tk } :=
  V.turnedL (ch := [I, S]) (fun b o hb e => k b o (fun z => hb (by simp [z])) (fun z => hb (by simp [z])) e) fun b hb => by
    have e : b = I ∨ b = S := by simpa using hb
    rcases e with e | e <;> rw [e] <;> assumption
/-- what stands at a turn -/
structure MaxAt (X : Cx) (pins : List (Addr × Obj)) (σ : L2.St) (Ψ : Hp → Prop) (l I S : Addr) (H : Hp) (n : Nat) (data : Array Value) (s : Shared) : Prop where
  inv : Inv X pins σ H s
  psi : Ψ H
  fI : FpOk X pins H I
  fS : FpOk X pins H S
  ne : S ≠ I
  it : s.heap.IsListIter I l n
  acc : ∃ c, s.heap.get? S = some (seqObj "list" data c)
theorem MaxAt.lI {H : Hp} {n : Nat} {data : Array Value} {s : Shared} (m : MaxAt X pins σ Ψ l I S H n data s) (hl : ∀ (H : Hp) (s : Shared), Inv X pins σ H s → Ψ H → ∃ its : List Value, Vals ws its ∧ s.heap.IsList l its.toArray) : l ≠ I := fun e => by
  obtain ⟨o, h1, h2, _⟩ := m.it
  obtain ⟨its, _, o2, h3, h4, _⟩ := hl H s m.inv m.psi
  rw [e, h1] at h3
  rw [← Option.some.inj h3, h2] at h4
  exact absurd h4 (by decide)
theorem MaxAt.next {H : Hp} {n : Nat} {data : Array Value} {s : Shared} {y : V} {Q : Option Value → Shared → Prop} {E : Value → Shared → Prop} (hc : X.A.handled = none) (hl : ∀ (H : Hp) (s : Shared), Inv X pins σ H s → Ψ H → ∃ its : List Value, Vals ws its ∧ s.heap.IsList l its.toArray) (m : MaxAt X pins σ Ψ l I S H n data s) (hv : ws[n]? = some y) (hQ : ∀ v s', RelV y v → MaxAt X pins σ Ψ l I S H (n + 1) data s' → Q (some v) s') :
    wpAny (model X.prog X.w) X.A.in1 (pyNext (.ref I)) Q E s := by
  obtain ⟨its, rv, isl⟩ := hl _ _ m.inv m.psi
  have Wk := Walks.list (prog := X.prog) (w := X.w) (A := X.A.in1) hc I l (m.lI hl) its.toArray
  obtain ⟨v, e1, e2⟩ := rv.get hv
  have hlt : n < its.length := (List.getElem?_eq_some_iff.mp e1).1
  refine Wk.item n _ _ _ (by simpa using hlt) ⟨m.it, isl⟩ fun v' g tk hP st hk => ?_
  have e : v' = v := by
    have : its[n]? = some v' := by simpa using hP
    rw [e1] at this
    exact (Option.some.inj this).symm
  subst e
  obtain ⟨c, hS⟩ := m.acc
  exact hQ _ _ e2 ⟨two_moved m.inv m.fI m.fS fun b o h1 _ e => hk b o (by simpa using h1) e, m.psi, m.fI, m.fS, m.ne, st.1, ⟨c, hk S _ (by simpa using m.ne) hS⟩⟩
end
end J
namespace J
open PySem L2 LamX
open PySem.Spec PyProof.Rows
open PySem.W (Datum)
/-! ### max(xs, key=lambda p: ..) of whole numbers -/
section
end
end J
namespace J
open PySem L2 LamX
open PySem.Spec PyProof.Rows
open PySem.W (Datum)
/-! ### defs whose code object is known; the head with tables -/
end J
namespace J
open PySem L2
open PySem.Spec PyProof.Rows
open PySem.W (Datum)
/-! ### sorted of numbers; range by steps as what a for goes over -/
section
end
end J
namespace J
end J
namespace J
open PySem L2
open PySem.W (Datum)
/-! ### refusing calls by names -/
section
end
section
/-! a refusal within: what is around it is left too -/
end
end J
namespace J
open PySem L2
open PySem.Spec PyProof.Rows
open PySem.W (Datum)
/-! ### zip(a, b, strict=True), of lists alike in length -/
section
variable {prog : Program} {w : World} {A : Around} {E : Value → Shared → Prop} {s : Shared}
theorem sz_stop {α : Type} {Q : α → Shared → Prop} (hh : A.handled = none) (hE : ∀ h' e, (∀ c o, s.heap.get? c = some o → h'.get? c = some o) → (∃ o, h'.get? e = some o ∧ o.cls = .type "StopIteration") → E (.ref e) { s with heap := h' }) :
    wpAny (model prog w) A (Builtin.SmallTypes.stopIteration) Q E s := by
  unfold Builtin.SmallTypes.stopIteration
  refine wpAny_bind ?_
  simp only [newExc, newTuple]
  refine wpAny_bind (wpAny_newObj_type ?_ (by size_fits))
  refine wpAny_bind (m := firstArgMember _ _) (wpAny_of_eq (a := Value.none) (by first | rfl | (simp only [firstArgMember]; rfl)) ?_)
  refine wpAny_newObj_type ?_ (by size_fits)
  simp only [raiseNew]
  refine wpAny_bind (wpAny_handled ?_)
  rw [hh]
  refine wpAny_bind (wpAny_pure (wpAny_throw ?_))
  exact hE _ _ (fun c o g => Heap.get?_push_of_some _ (Heap.get?_push_of_some _ g)) ⟨_, Heap.get?_push_size _ rfl, rfl⟩
end
section
end
section
end
section
end
end J
namespace J
open PySem L2
open PySem.W (Datum)
/-! ### a list of two things of two kinds, compared -/
structure H2 (α β : Type) where
  a : α
  b : β
deriving DecidableEq
section
variable {α β : Type} [DecidableEq α] [Datum α] [DecidableEq β] [Datum β]
instance : Datum (H2 α β) where
  toD p := .list [Datum.toD p.a, Datum.toD p.b]
  plain p := by simp only [PyData.plain, PyData.plainAll, Datum.plain, Bool.and_self]
  eqv p q := by
    simp only [PyData.eqv, PyData.eqvAll]
    rw [Datum.eqv, Datum.eqv, Bool.and_true, ← Bool.decide_and]
    refine decide_eq_decide.mpr ⟨fun e => ?_, fun e => by rw [e]; exact ⟨rfl, rfl⟩⟩
    cases p
    cases q
    cases e.1
    cases e.2
    rfl
  depth := max (Datum.depth α) (Datum.depth β) + 1
  depth_le p := by
    simp only [PyData.depth, PyData.depthAll]
    exact Nat.succ_le_succ (Nat.max_le.mpr ⟨Nat.le_trans (Datum.depth_le p.a) (Nat.le_max_left _ _), Nat.max_le.mpr ⟨Nat.le_trans (Datum.depth_le p.b) (Nat.le_max_right _ _), Nat.zero_le _⟩⟩)
variable {B : Base} {S : Stt}
end
end J
namespace J
open PySem L2
open PySem.Spec PyProof.Rows
open PySem.W (Datum)
/-! ### enumerate(reversed(list)) -/
section
variable {prog : Program} {w : World} {A : Around} {E : Value → Shared → Prop} {s : Shared}
theorem rv_some {r l : Addr} {i : Nat} {vs : Array Value} {x : Value} {Q : Value → Shared → Prop} (jr : s.heap.IsRevIter r l (i : Int)) (gl : s.heap.IsList l vs) (ex : vs[i]? = some x)
    (hQ : ∀ h', h'.IsRevIter r l ((i : Int) - 1) → Heap.SameBut r s.heap h' → Q x { s with heap := h' }) : wpAny (model prog w) A (Builtin.SmallTypes.nextOf (.ref r)) Q E s := by
  obtain ⟨ob, gr, cr, dr⟩ := id jr
  obtain ⟨ol, gol, _, nl, dl⟩ := gl
  unfold Builtin.SmallTypes.nextOf
  refine wpAny_bind (wpAny_callSpecial?_slot (name := Str.ofString "__next__") jr.typeIs F.slot_lri_next
    (wpAny_call_entry F.slot_lri_next jr.typeIs F.entry_lri_next ?_ (F.args_lri_next_1 _)))
  unfold Builtin.«list_reverseiterator.__next__»
  refine wpAny_bind (wpAny_of_eq (a := (Value.ref r, [])) rfl ?_)
  try dsimp only
  refine wpAny_bind (wpAny_field gr dr (x := rawInt (i : Int)) rfl ?_)
  show wpAny _ _ (if (i : Int) < 0 then _ else _) _ _ s
  rw [if_neg (by omega)]
  show wpAny _ _ (field (.ref r) 0 >>= _) _ _ s
  refine wpAny_bind (wpAny_field gr dr (x := .ref l) rfl (wpAny_bind (wpAny_seqItems gol dl ?_)))
  simp only [Int.toNat_natCast, ex]
  refine wpAny_bind (wpAny_setField gr dr (by simp) ?_)
  first
  | refine wpAny_pure ⟨x, rfl, wpAny_pure (hQ _ ?_ (Heap.SameBut.update ..))⟩
  | refine wpAny_bind (wpAny_pure (wpAny_pure ⟨x, rfl, wpAny_pure (hQ _ ?_ (Heap.SameBut.update ..))⟩))
  exact ⟨_, Heap.get?_update_self _ gr (Obj.isFreed_of_fields (Obj.data_mapFields dr _)), (Obj.cls_mapFields ..).trans cr, by rw [Obj.data_mapFields dr]; simp⟩
theorem rv_stop {r l : Addr} {Q : Value → Shared → Prop} (hh : A.handled = none) (jr : s.heap.IsRevIter r l (-1))
    (hE : ∀ h' e, Heap.ExtBut r s.heap h' → (∃ o, h'.get? e = some o ∧ o.cls = .type "StopIteration") → E (.ref e) { s with heap := h' }) : wpAny (model prog w) A (Builtin.SmallTypes.nextOf (.ref r)) Q E s := by
  obtain ⟨ob, gr, cr, dr⟩ := id jr
  unfold Builtin.SmallTypes.nextOf
  refine wpAny_bind (wpAny_callSpecial?_slot (name := Str.ofString "__next__") jr.typeIs F.slot_lri_next
    (wpAny_call_entry F.slot_lri_next jr.typeIs F.entry_lri_next ?_ (F.args_lri_next_1 _)))
  unfold Builtin.«list_reverseiterator.__next__»
  refine wpAny_bind (wpAny_of_eq (a := (Value.ref r, [])) rfl ?_)
  try dsimp only
  refine wpAny_bind (wpAny_field gr dr (x := rawInt (-1)) rfl ?_)
  show wpAny _ _ (if (-1 : Int) < 0 then _ else _) _ _ s
  rw [if_pos (by decide)]
  refine wpAny_bind (wpAny_rule (wpAny_bind (sz_stop (show A.in1.handled = none from hh) fun h1 e k he => hE h1 e (fun c o _ g => k c o g) he)))
/-- what a turn leaves -/
def ErN (e r l : Addr) (i : Nat) (j : Int) (x : Value) (s : Shared) (h' : Heap) : Prop :=
  h'.IsRevIter r l j ∧ IsPair h' s.heap.objs.size (.int i s.toks) x ∧ IsEnumOut h' e r ((i : Int) + 1) x s.heap.objs.size ∧ ∀ c o, c ≠ e → c ≠ r → s.heap.get? c = some o → h'.get? c = some o
theorem er_item {e r l : Addr} {i j : Nat} {old x : Value} {vs : Array Value} {Q : Option Value → Shared → Prop} (ne : e ≠ r) (he : IsEnum s.heap e r (i : Int) old) (jr : s.heap.IsRevIter r l (j : Int)) (gl : s.heap.IsList l vs) (ex : vs[j]? = some x)
    (hQ : ∀ h', ErN e r l i ((j : Int) - 1) x s h' → Q (some (.ref s.heap.objs.size)) { s with heap := h', toks := s.toks + 1 }) : wpAny (model prog w) A (pyNext (.ref e)) Q E s := by
  have te : s.TypeIs (.ref e) "enumerate" := ⟨_, he, rfl⟩
  unfold pyNext
  refine wpAny_bind (wpAny_attempt (wpAny_callSpecial?_slot (name := Str.ofString "__next__") te F.slot_enumerate_next
    (wpAny_call_entry F.slot_enumerate_next te F.entry_enumerate_next ?_ (F.args_enumerate_next_1 _))))
  obtain ⟨hp, g, d, tk, os⟩ := s
  show wpAny _ _ (field (.ref e) 2 >>= _) _ _ _
  refine wpAny_bind (wpAny_field he rfl (x := .ref r) rfl ?_)
  refine wpAny_bind (rv_some jr gl ex fun q0 c1 sb => ?_)
  have sb : Heap.SameBut r hp q0 := sb
  have sz : q0.objs.size = hp.objs.size := sb.1
  have e0 : IsEnum q0 e r (i : Int) old := sb.extBut _ _ ne he
  have el : e < hp.objs.size := Heap.lt_size he
  show wpAny _ _ (field (.ref e) 3 >>= _) _ _ ⟨q0, g, d, tk, os⟩
  refine wpAny_bind (wpAny_field e0 rfl (x := rawInt i) rfl ?_)
  show wpAny _ _ (field (.ref e) 4 >>= _) _ _ ⟨q0, g, d, tk, os⟩
  refine wpAny_bind (wpAny_field e0 rfl (x := .none) rfl ?_)
  show wpAny _ _ (mkInt i >>= _) _ _ ⟨q0, g, d, tk, os⟩
  refine wpAny_bind (wpAny_mkInt ?_)
  show wpAny _ _ (setField (.ref e) 3 (rawInt ((i : Int) + 1)) >>= _) _ _ ⟨q0, g, d, tk + 1, os⟩
  refine wpAny_bind (wpAny_setField_rec e0 (by simp) fun q1 e1 s1 => ?_)
  have e1 : IsEnum q1 e r ((i : Int) + 1) old := e1
  show wpAny _ _ (setField (.ref e) 4 .none >>= _) _ _ ⟨q1, g, d, tk + 1, os⟩
  refine wpAny_bind (wpAny_setField_rec e1 (by simp) fun q2 e2 s2 => ?_)
  have e2 : IsEnum q2 e r ((i : Int) + 1) old := e2
  show wpAny _ _ (newTuple [.int i tk, x] >>= _) _ _ ⟨q2, g, d, tk + 1, os⟩
  refine wpAny_bind (wpAny_newTuple ?_)
  have s1 : Heap.SameBut e q0 q1 := s1
  have s2 : Heap.SameBut e q1 q2 := s2
  have z2 : q2.objs.size = hp.objs.size := by rw [s2.1, s1.1, sz]
  rw [z2]
  have e3 : IsEnum (q2.push { cls := .type "tuple", data := .seq #[.int i tk, x] }) e r ((i : Int) + 1) old := Heap.get?_push_of_some _ e2
  have t3 : IsPair (q2.push { cls := .type "tuple", data := .seq #[.int i tk, x] }) hp.objs.size (.int i tk) x := by
    have := Heap.get?_push_size q2 (o := { cls := .type "tuple", data := .seq #[.int i tk, x] }) rfl
    rw [z2] at this
    exact this
  have up3 : ∀ c o, c ≠ e → q0.get? c = some o → (q2.push { cls := .type "tuple", data := .seq #[.int i tk, x] }).get? c = some o := fun c o h1 h2 => Heap.get?_push_of_some _ (s2.extBut _ _ h1 (s1.extBut _ _ h1 h2))
  generalize (q2.push { cls := .type "tuple", data := .seq #[.int i tk, x] }) = q3 at e3 t3 up3 ⊢
  show wpAny _ _ (Builtin.SmallTypes.ownedTupleIsFree (.ref e) >>= _) _ _ ⟨q3, g, d, tk + 1, os⟩
  refine wpAny_bind ?_
  unfold Builtin.SmallTypes.ownedTupleIsFree
  refine wpAny_bind (wpAny_field e3 rfl (x := .none) rfl (wpAny_pure ?_))
  simp only [if_true]
  refine wpAny_bind (wpAny_rule (wpAny_bind (wpAny_field e3 rfl (x := old) rfl ?_)))
  refine wpAny_bind (wpAny_setField_rec e3 (by simp) fun q4 e4 s4 => ?_)
  have e4 : IsEnum q4 e r ((i : Int) + 1) x := e4
  have s4 : Heap.SameBut e q3 q4 := s4
  show wpAny _ _ (Builtin.SmallTypes.ownedTupleHandOut (.ref e) (.ref hp.objs.size) >>= _) _ _ ⟨q4, g, d, tk + 1, os⟩
  refine wpAny_bind ?_
  unfold Builtin.SmallTypes.ownedTupleHandOut
  refine wpAny_bind (wpAny_setField_rec e4 (by simp) fun q5 e5 s5 => ?_)
  have e5 : IsEnumOut q5 e r ((i : Int) + 1) x hp.objs.size := e5
  have s5 : Heap.SameBut e q4 q5 := s5
  refine wpAny_setField_rec e5 (by simp) fun q6 e6 s6 => ?_
  have e6 : IsEnumOut q6 e r ((i : Int) + 1) x hp.objs.size := e6
  have s6 : Heap.SameBut e q5 q6 := s6
  have up4 : ∀ c o, c ≠ e → q3.get? c = some o → q6.get? c = some o := fun c o h1 h2 => s6.extBut _ _ h1 (s5.extBut _ _ h1 (s4.extBut _ _ h1 h2))
  have up : ∀ c o, c ≠ e → q0.get? c = some o → q6.get? c = some o := fun c o h1 h2 => up4 c o h1 (up3 c o h1 h2)
  exact wpAny_bind (wpAny_letGo (wpAny_pure ⟨_, rfl, wpAny_pure (hQ q6 ⟨c1.at fun o h => up _ o ne.symm h, up4 _ _ (Nat.ne_of_gt el) t3, e6, fun c o h0 h1 h2 => up c o h0 (sb.extBut c o h1 h2)⟩)⟩))
theorem er_end {e r l : Addr} {i : Nat} {old : Value} {Q : Option Value → Shared → Prop} (hh : A.handled = none) (he : IsEnum s.heap e r (i : Int) old) (jr : s.heap.IsRevIter r l (-1))
    (hQ : ∀ h', Heap.ExtBut r s.heap h' → Q none { s with heap := h' }) : wpAny (model prog w) A (pyNext (.ref e)) Q E s := by
  have te : s.TypeIs (.ref e) "enumerate" := ⟨_, he, rfl⟩
  unfold pyNext
  refine wpAny_bind (wpAny_attempt (wpAny_callSpecial?_slot (name := Str.ofString "__next__") te F.slot_enumerate_next
    (wpAny_call_entry F.slot_enumerate_next te F.entry_enumerate_next ?_ (F.args_enumerate_next_1 _))))
  show wpAny _ _ (field (.ref e) 2 >>= _) _ _ s
  refine wpAny_bind (wpAny_field he rfl (x := .ref r) rfl ?_)
  refine wpAny_bind (rv_stop hh jr fun h' u hk hu => ?_)
  obtain ⟨o, ho, hc⟩ := hu
  exact wpAny_bind (wpAny_isInstance (T := "StopIteration") (b := true) ⟨o, ho, hc⟩ isSubtype_stop (wpAny_pure (hQ _ hk)))
end
def Iter (K : PySem.W.Frag) (a : Addr) (n : Nat) : It :=
  ⟨fun i H => i < n ∧ ∃ (xs : List V) (x : V), SqL K H a xs ∧ xs[n - 1 - i]? = some x,
    fun i H v H' => ∃ t x, v = .ref t ∧ H t = none ∧ H' = upd H t (.tup [.int (i : Nat), x]) ∧ ∀ xs, SqL K H a xs → xs[n - 1 - i]? = some x,
    fun i _ => n ≤ i⟩
theorem turn_er {P : Program} {w : World} {K : PySem.W.Frag} {elts : List Expr} {kk : Nat} {tpos : Pos} {a e r : Addr} {n : Nat} (ne : e ≠ r) :
    Turn P w K (.Tuple elts kk tpos) (Iter K a n) [e, r] e (fun i h => (∃ old, IsEnum h e r ((i : Nat) : Int) old) ∧ i ≤ n ∧ h.IsRevIter r a ((n : Int) - 1 - (i : Nat))) where
  mem := by simp
  obj := fun i h st c hc => by
    obtain ⟨⟨old, he⟩, _, ⟨o, g, _, d⟩⟩ := st
    have cs : c = e ∨ c = r := by simpa using hc
    rcases cs with q | q <;> rw [q]
    · exact ⟨_, he, fun v q => nomatch q⟩
    · exact ⟨o, g, fun v q => by rw [d] at q; cases q⟩
  keep := fun i h h' st k => by
    obtain ⟨⟨old, he⟩, hl, hr⟩ := st
    exact ⟨⟨old, k e (by simp) _ he⟩, hl, hr.at fun o q => k r (by simp) o q⟩
  item := by
    intro X hP hw hK hc i pins s σ H E I hf st hg
    subst hP hw hK
    obtain ⟨⟨old, he⟩, hl, hr⟩ := st
    obtain ⟨hi, xs, x, sx, hx⟩ := hg
    obtain ⟨its, rv, p, _⟩ := I.list sx
    obtain ⟨u, hu, ru⟩ := rv.get hx
    have el : e < s.heap.objs.size := Heap.lt_size he
    have rl : r < s.heap.objs.size := by obtain ⟨_, q1, _⟩ := hr; exact Heap.lt_size q1
    have ei : (n : Int) - 1 - (i : Nat) = ((n - 1 - i : Nat) : Int) := by omega
    rw [ei] at hr
    refine er_item ne he hr p.isList (x := u) (by simpa using hu) fun h' N => ?_
    obtain ⟨c1, np, eo, kk⟩ := N
    refine ⟨_, rfl, wpAny_letOwnedTupleGo_enum (s := { s with heap := h', toks := s.toks + 1 }) eo fun h'' he' sb => ?_⟩
    have sb : Heap.SameBut e h' h'' := sb
    have np2 : h''.get? s.heap.objs.size = some { cls := .type "tuple", data := .seq #[.int i s.toks, u] } := (sb.2 _ (Nat.ne_of_gt el)).trans np
    have n1 : ObjOk X.prog X.w (upd H s.heap.objs.size (.tup [.int (i : Nat), x])) h'' s.heap.objs.size (.tup [.int (i : Nat), x]) := ⟨by show 2 ≤ sizeLine; decide, [.int i s.toks, u], .cons ⟨_, rfl⟩ (.cons ru .nil), ⟨_, np2, rfl, _, rfl⟩⟩
    have I1 : Inv X pins σ (upd H s.heap.objs.size (.tup [.int (i : Nat), x])) { s with heap := h'', toks := s.toks + 1 } :=
      I.turnedNew (ch := [e, r]) (fun c o hb q => (sb.2 c (fun q' => hb (by simp [q']))).trans (kk c o (fun q' => hb (by simp [q'])) (fun q' => hb (by simp [q'])) q)) hf (Nat.le_refl _) n1
    refine ⟨.ref s.heap.objs.size, _, I1, rfl, ⟨_, x, rfl, I.hok.fresh (Nat.le_refl _), rfl, fun l hl => by rw [I.list_inj hl sx]; exact hx⟩, ⟨⟨u, ?_⟩, hi, ?_⟩, fun c hcm => ?_⟩
    · have e1 : ((i + 1 : Nat) : Int) = (i : Int) + 1 := by omega
      rw [e1]
      exact he'
    · have e1 : (n : Int) - 1 - ((i + 1 : Nat) : Int) = ((n - 1 - i : Nat) : Int) - 1 := by omega
      rw [e1]
      exact c1.at fun o q => (sb.2 _ ne.symm).trans q
    · have lt : c < s.heap.objs.size := by
        have cs : c = e ∨ c = r := by simpa using hcm
        rcases cs with q | q <;> rw [q]
        · exact el
        · exact rl
      rw [upd_ne (Nat.ne_of_lt lt)]
      exact (hf c hcm).1
  done := by
    intro X hP hw hK hc i pins s σ H E I hf st hg
    subst hP hw hK
    obtain ⟨⟨old, he⟩, hl, hr⟩ := st
    have hge : n ≤ i := hg
    have e1 : (n : Int) - 1 - ((i : Nat) : Int) = -1 := by omega
    rw [e1] at hr
    obtain ⟨f0, f1, f2, f3, f4, f5⟩ := hf r (by simp)
    exact er_end (I.ok.hd hc) he hr fun h' eb => ⟨rfl, I.turned (t' := s.toks) (fun b o hb q => eb b o hb q) f0 f1 f3 f4 f5⟩
  self := fun A i s Q E st h => let ⟨⟨_, he⟩, _⟩ := st; wpAny_pyIter_enum he h
def iEr (K : PySem.W.Frag) (ta : TA) : TI := fun σ H R => ta σ H fun vs H1 => ∃ a xs, vs = [.ref a] ∧ SqL K H1 a xs ∧ R (Iter K a xs.length) H1
theorem meets_er (r l : Addr) (j : Int) : Meets (Builtin.«enumerate.__new__» ⟨[.type "enumerate", .ref r], []⟩) (fun _ R s => s.heap.get? r = some (revObj l j) ∧
      R (.ok (.ret (.ref s.heap.objs.size))) { s with heap := s.heap.push { cls := .type "enumerate", data := .fields #[.none, .bool false, .ref r, rawInt 0, .none, .none] } }) :=
  .of_wp fun prog w A R s h => by
    obtain ⟨hp, g, d, tk, os⟩ := s
    obtain ⟨hr, h⟩ := h
    have hsub := sub_enumerate
    have hR : (Shared.heap ⟨hp, g, d, tk, os⟩).IsRevIter r l j := ⟨_, hr, rfl, rfl⟩
    wp_walk using AutoSeq1.wpAny_loadPart' hr
    refine wpAny_stack_any fun st => wpAny_pure ?_
    split
    · rename_i c _ _ _ _ _
      cases (c == Value.type "enumerate")
      · wp_walk using AutoSeq1.wpAny_loadPart' hr, wpAny_pyIter_revIter hR
        exact ⟨_, rfl, h⟩
      · wp_walk using AutoSeq1.wpAny_loadPart' hr, wpAny_pyIter_revIter hR
        exact ⟨_, rfl, h⟩
    · wp_walk using AutoSeq1.wpAny_loadPart' hr, wpAny_pyIter_revIter hR
      exact ⟨_, rfl, h⟩
theorem call_er {prog : Program} {w : World} {A : Around} {E : Value → Shared → Prop} {s : Shared} {r l : Addr} {j : Int} {Q : Value → Shared → Prop} (hr : s.heap.get? r = some (revObj l j))
    (h : ∀ h', IsEnum h' s.heap.objs.size r 0 .none → (∀ b o, s.heap.get? b = some o → h'.get? b = some o) → Q (.ref s.heap.objs.size) { s with heap := h' }) :
    wpAny (model prog w) A (call (.type "enumerate") [.ref r]) Q E s := by
  refine callType_new F.called_enumerate (by decide) (F.typeCall_enumerate_1 _) (F.newCall_enumerate_1 _) (fun obj => F.args_object_init_2 obj _) F.entry_enumerate_new (meets_er r l j) ⟨hr, ?_⟩
  have he : IsEnum (s.heap.push { cls := .type "enumerate", data := .fields #[.none, .bool false, .ref r, rawInt 0, .none, .none] }) s.heap.objs.size r 0 .none := Heap.get?_push_size _ rfl
  exact ⟨⟨_, he, rfl⟩, h _ he fun b o x => Heap.get?_push_of_some _ x⟩
theorem pi_er {X : Cx} {e : Expr} {ta : TA} {p pos p2 pos2 tpos : Pos} {elts : List Expr} {kk : Nat} (hg : Gl X "enumerate") (hm : X.mg "enumerate" = none) (hg2 : Gl X "reversed") (hm2 : X.mg "reversed" = none) (ha : PA X [e] ta)
    (hs : starEach [Expr.Call (.Name "reversed" p2) [e] [] pos2] X.env = (false, eval (.Call (.Name "reversed" p2) [e] [] pos2) X.env) :: starEach [] X.env) (hs2 : starEach [e] X.env = [(false, eval e X.env)]) :
    PI X (.Tuple elts kk tpos) (.Call (.Name "enumerate" p) [.Call (.Name "reversed" p2) [e] [] pos2] [] pos) (iEr X.K ta) := by
  refine ⟨fun pins s σ H R I h => ?_⟩
  refine Call_ (ld_blt I hg hm boot_enumerate (PyProof.Rows.callWith_type1 ?_ hs rfl))
  rw [hs]
  show wpAny _ _ (spliced ((false, eval (.Call (.Name "reversed" p2) [e] [] pos2) X.env) :: backTo pos (starEach [] X.env))) _ _ s
  refine Calls.spliced_cons (Call_ (ld_blt I hg2 hm2 PyProof.Rows.boot_reversed (PyProof.Rows.callWith_type1 (thn (ha.run pos2 pins s σ H _ I h) fun us s1 ⟨vs, H1, I1, r1, q1⟩ => ?_) hs2 rfl)))
  obtain ⟨a, xs, ex, sx, q⟩ := q1
  subst ex
  cases r1 with
  | cons r rr =>
    cases rr
    cases r
    obtain ⟨its, rv, p1, _⟩ := I1.list sx
    have hl := rv.length
    refine call_reversed_list p1.isList (Calls.spliced_nil (call_er (l := a) (j := ((its.toArray.size : Nat) : Int) - 1) (Heap.get?_push_size _ rfl) fun h'' he hk2 => wpAny_pyIter_enum he ?_))
    have hsz : (s1.heap.push (revObj a (((its.toArray.size : Nat) : Int) - 1))).objs.size = s1.heap.objs.size + 1 := Heap.size_push ..
    have I2 : Inv X pins σ H1 { s1 with heap := h'' } := I1.kept (t' := s1.toks) fun c o g => hk2 c o (Heap.get?_push_of_some _ g)
    have he : IsEnum h'' (s1.heap.push (revObj a (((its.toArray.size : Nat) : Int) - 1))).objs.size s1.heap.objs.size 0 .none := he
    rw [hsz] at he
    show PIE X pins σ _ R (.ref (s1.heap.push (revObj a (((its.toArray.size : Nat) : Int) - 1))).objs.size) _
    rw [hsz]
    have hri : h''.IsRevIter s1.heap.objs.size a ((xs.length : Int) - 1 - ((0 : Nat) : Int)) := by
      have e1 : (xs.length : Int) - 1 - ((0 : Nat) : Int) = ((its.toArray.size : Nat) : Int) - 1 := by simp only [List.size_toArray]; omega
      rw [e1]
      exact ⟨_, hk2 _ _ (Heap.get?_push_size _ rfl), rfl, rfl⟩
    refine ⟨s1.heap.objs.size + 1, [s1.heap.objs.size + 1, s1.heap.objs.size], _, _, H1, rfl, I2, turn_er (Nat.succ_ne_self _), ⟨⟨_, he⟩, Nat.zero_le _, hri⟩, fun c hcm => ?_, q⟩
    have cs : c = s1.heap.objs.size + 1 ∨ c = s1.heap.objs.size := by simpa using hcm
    have hle : s1.heap.objs.size ≤ c := by
      rcases cs with z | z <;> rw [z]
      · exact Nat.le_add_right _ _
      · exact Nat.le_refl _
    exact I1.fpOk hle (I1.hok.fresh hle)
section
end
end J
namespace J
universe u w
open PySem L2
open PySem.W (Datum DatumOrd Holds HoldAll T3 T4)
/-! ### {k: v for ..}, keys whole numbers -/
def dOf {β : Type} (ys : List (Int × β)) : List (Int × β) := ys.foldl (fun m q => dput m q.1 q.2) []
theorem dOf_snoc {β : Type} (ys : List (Int × β)) (y : Int × β) : dOf (ys ++ [y]) = dput (dOf ys) y.1 y.2 := by
  unfold dOf
  rw [List.foldl_append]
  rfl
theorem dput_le {β : Type} (m : List (Int × β)) (k : Int) (v : β) : (dput m k v).length ≤ m.length + 1 := by
  unfold dput
  split
  · rw [List.length_map]; omega
  · rw [List.length_append]; simp
theorem dOf_len {β : Type} (ys : List (Int × β)) : (dOf ys).length ≤ ys.length := by
  have : ∀ (ys : List (Int × β)) (m : List (Int × β)), (ys.foldl (fun m q => dput m q.1 q.2) m).length ≤ m.length + ys.length := by
    intro ys
    induction ys with
    | nil => intro m; exact Nat.le_refl _
    | cons y ys ih =>
      intro m
      have h1 := ih (dput m y.1 y.2)
      have h2 := dput_le m y.1 y.2
      rw [List.foldl_cons, List.length_cons]
      omega
  have h := this ys []
  rw [List.length_nil, Nat.zero_add] at h
  exact h
section
variable {X : Cx} {B : Base} {S S1 S2 S3 : Stt} {x y z : Slot} {a b e o : Expr} {es : List Expr} {pos apos : Pos} {D : FE} {rest : List Stmt} {k : Nat} {tg : Expr}
theorem Sta.putT {β : Type} [DecidableEq β] [Datum β] {T : List Slot} {σ : L2.St} {tv : List V} {H : Hp} {m : List (Int × β)} {t : β} {key : Int} {w kv : V} {D : Addr} (h : Sta B S (.val t :: .val key :: .own (.dk (dks m) (dss m)) :: T) σ (w :: kv :: .ref D :: tv) H) :
    ∃ gs, kv = kV (Sum.inl key) ∧ H D = some (.dK gs) ∧ gs.length = m.length ∧ Sta B S (.own (.dk (dks (J.dput m key t)) (dss (J.dput m key t))) :: T) σ (.ref D :: tv) (upd H D (.dK (putK gs (Sum.inl key) w))) := by
  have ek := h.drop.int
  obtain ⟨G, as, bs, z⟩ := h
  obtain ⟨a1, a2, rfl, g1, z1⟩ := z.pop
  obtain rfl := g1.nil rfl
  obtain ⟨a3, a4, rfl, g2, z2⟩ := z1.pop
  obtain rfl := g2.nil rfl
  obtain ⟨a5, a6, rfl, g3, z3⟩ := z2.pop
  cases g3 with
  | @own _ _ oo mm hD hc =>
    cases hc with
    | @dk _ _ gs _ hks hss =>
      obtain rfl := hss.plain (dss_plain m)
      have hlen : gs.length = m.length := by
        have := congrArg List.length hks
        rw [List.length_map, List.length_map] at this
        exact this.symm
      refine ⟨gs, ek, hD, hlen, ?_⟩
      have nd : (D :: (a6 ++ bs)).Nodup := by simpa using z.nod
      have nD : ∀ a ∈ a6 ++ bs, a ≠ D := fun a ha e => (List.nodup_cons.mp nd).1 (e ▸ ha)
      have fr := fun a (ha : a ∈ D :: (a6 ++ bs)) => z.fre a (by simpa using ha)
      have hG : G D = none := (fr D (by simp)).1
      have hF : B.F D = none := (fr D (by simp)).2
      obtain ⟨e1, e2⟩ := put_rel key g1 hks hss
      have hnew : CeI G (upd H D (.dK (putK gs (Sum.inl key) w))) (.dk (dks (J.dput m key t)) (dss (J.dput m key t))) (.dK (putK gs (Sum.inl key) w)) [] := .dk e1 (SsI.mono e2 (Ex.refl G) fun a ha => nomatch ha)
      exact ⟨G, D :: a6, bs, .cons (as := [D]) (.own upd_same hnew) (z3.tmp.mono (Ex.refl G) fun a ha => upd_ne (nD a (by simp [ha]))), z.cel.mono (Ex.refl G) fun a ha => upd_ne (nD a (by simp [ha])), z.slo, by simpa using nd, fun a ha => fr a (by simpa using ha), z.gro, z.new,
        fun a u ha => by rw [upd_ne (by intro e; subst e; rw [hG] at ha; cases ha)]; exact z.sub a u ha, fun a u ha => by rw [upd_ne (by intro e; subst e; rw [hF] at ha; cases ha)]; exact z.frm a u ha⟩
theorem dc_t {ι α β : Type} [DecidableEq α] [Datum α] [DecidableEq β] [Datum β] {xs : List α} {f : ι → α → Option (Option (Int × β) × ι)} {Sf : ι → Stt} {Sb : ι → α → Stt} {s0 sE : ι} {ys : List (Int × β)} {iter kx vx : Expr} {ifs : List Expr} {scope : Scope} {own : List (Str × Nat)} {zs : List Slot} {ok : Stt → Prop} {ws : List Nat}
    (hf : cmpM f xs s0 = some (ys, sE)) (hlen : xs.length ≤ 16777216) (hN : X.N.Nodup) (hbk : BlkOk X.N X.env.scope scope own)
    (hi : JI X B S tg iter S1 zs (xs.map Slot.val) ok) (h0 : Le B S1 (Sf s0)) (hok : ∀ s, ok (Sf s)) (hv : ∀ s, AnyAt (Sf s).sl (own.map (·.2))) (hws : ∀ i ∈ ws, i ∈ own.map (·.2))
    (hg : ∀ s x, Blk X scope fun Y => JG Y B (Sf s) tg (.val x) (Sb s x) ws)
    (hb : ∀ s x o s', x ∈ xs → f s x = some (o, s') → ∃ (p : Bool) (St : Stt), (Blk X scope fun Y => JTs Y B (Sb s x) ifs St p) ∧ (p = true → ∃ y Se, o = some y ∧ ∃ Sk, (Blk X scope fun Y => JE Y B St kx Sk (.val y.1)) ∧ (Blk X scope fun Y => JE Y B Sk vx Se (.val y.2)) ∧ Le B Se (Sf s')) ∧ (p = false → o = none ∧ Le B St (Sf s')))
    {T : List Slot} {σ : St} {tv : List V} {H : Hp} {Q : VK} (h : Sta B S T σ tv H) (q : ∀ v H', Sta B (Sf sE) (.own (.dk (dks (dOf ys)) (dss (dOf ys))) :: T) σ (v :: tv) H' → Q v H') : tDc (tiOf X tg iter) (fun v σ H Q => Blk X scope fun Y => tgOf Y tg v σ H Q) (fun σ H Q => Blk X scope fun Y => ttsOf Y ifs σ H Q) (fun σ H Q => Blk X scope fun Y => teOf Y kx σ H Q) (fun σ H Q => Blk X scope fun Y => teOf Y vx σ H Q) (own.map (·.2)) σ H Q :=
  hi _ _ _ _ _ h fun J zv H1 hl h1 wk => fun Dd hD => by
      have hS0 := h0 _ _ _ _ h1
      obtain ⟨G0, as0, bs0, z0⟩ := id hS0
      have start : Sta B (Sf s0) (.own (.dk (dks (dOf ([] : List (Int × β)))) (dss (dOf ([] : List (Int × β))))) :: (zs ++ T)) σ (.ref Dd :: (zv ++ tv)) (upd H1 Dd (.dK [])) := z0.newO hD (.dk rfl .nil)
      refine ⟨fun i m H => m = xs.length - i ∧ i ≤ xs.length ∧ ∃ s acc more, cmpM f (xs.drop i) s = some (more, sE) ∧ ys = acc ++ more ∧ acc.length ≤ i ∧ Sta B (Sf s) (.own (.dk (dks (dOf acc)) (dss (dOf acc))) :: (zs ++ T)) σ (.ref Dd :: (zv ++ tv)) H, ⟨xs.length, by simp, Nat.zero_le _, s0, [], ys, hf, rfl, Nat.zero_le _, start⟩, ?_⟩
      rintro i m H ⟨rfl, hle, s, acc, more, hm, hys, hacc, hS⟩
      have rotz : ∀ {S : Stt} {s : Slot} {u : V} {σ : St} {H : Hp}, Sta B S (s :: (zs ++ T)) σ (u :: (zv ++ tv)) H → Sta B S (zs ++ s :: T) σ (zv ++ u :: tv) H := fun {S s u σ H} h => by
        obtain ⟨G, as, bs, z⟩ := h
        obtain ⟨a1, a2, rfl, g1, z1⟩ := z.pop
        obtain ⟨a3, a4, rfl, g2, z2⟩ := z1.split hl.symm
        have pm : (a3 ++ (a1 ++ a4) ++ bs).Perm (a1 ++ (a3 ++ a4) ++ bs) := List.Perm.append_right _ (by
          rw [← List.append_assoc, ← List.append_assoc]
          exact List.Perm.append_right _ List.perm_append_comm)
        exact ⟨G, a3 ++ (a1 ++ a4), bs, g2.app (.cons g1 z2.tmp), z.cel, z.slo, pm.nodup_iff.mpr z.nod, fun a ha => z.fre a (pm.mem_iff.mp ha), z.gro, z.new, z.sub, z.frm⟩
      by_cases hlt : i < xs.length
      · rw [List.drop_eq_getElem_cons hlt] at hm
        refine bnd hm fun pr e1 e2 => bnd e2 fun qr e3 e4 => .inr ?_
        obtain ⟨o, s'⟩ := pr
        obtain ⟨more', sE'⟩ := qr
        have hx : (xs.map Slot.val)[i]? = some (Slot.val xs[i]) := by rw [List.getElem?_map, List.getElem?_eq_getElem hlt] <;> rfl
        obtain ⟨w1, w2⟩ := wk.go _ _ _ _ _ i _ (hok s) hx (rotz (hS.wip (hv s)))
        obtain ⟨w1', _⟩ := wk.go _ _ _ _ _ i _ (hok s) hx (rotz hS)
        obtain ⟨p, St, hT, hp1, hp0⟩ := hb s xs[i] o s' (List.getElem_mem hlt) e1
        refine ⟨w1', fun H => i < xs.length ∧ ∃ s acc more, cmpM f (xs.drop (i + 1)) s = some (more, sE) ∧ ys = acc ++ more ∧ acc.length ≤ i + 1 ∧ Sta B (Sf s) (.own (.dk (dks (dOf acc)) (dss (dOf acc))) :: (zs ++ T)) σ (.ref Dd :: (zv ++ tv)) H, fun H' ⟨_, g⟩ => ⟨xs.length - (i + 1), by omega, rfl, hlt, g⟩, fun v H' hy => ?_⟩
        have hS2 := w2 v H' hy
        -- the item on top, then the list that grows
        have hS3 : Sta B (Sf s) (.val xs[i] :: .own (.dk (dks (dOf acc)) (dss (dOf acc))) :: (zs ++ T)) (wipe σ (own.map (·.2))) (v :: .ref Dd :: (zv ++ tv)) H' := by
          obtain ⟨G, as, bs, z⟩ := hS2
          obtain ⟨a1, a2, rfl, g1, z1⟩ := z.pop
          obtain ⟨a3, a4, rfl, g2, z2⟩ := z1.split hl.symm
          obtain ⟨a5, a6, rfl, g3, z3⟩ := z2.pop
          have pm : (a1 ++ (a5 ++ (a3 ++ a6)) ++ bs).Perm (a1 ++ (a3 ++ (a5 ++ a6)) ++ bs) := List.Perm.append_right _ (List.Perm.append_left _ (by
            rw [← List.append_assoc, ← List.append_assoc]
            exact List.Perm.append_right _ List.perm_append_comm))
          exact ⟨G, a1 ++ (a5 ++ (a3 ++ a6)), bs, .cons g1 (.cons g3 (g2.app z3.tmp)), z.cel, z.slo, pm.nodup_iff.mpr z.nod, fun a ha => z.fre a (pm.mem_iff.mp ha), z.gro, z.new, z.sub, z.frm⟩
        intro s1 H01 C1 cl1 fp1
        refine hg s xs[i] s1 H01 C1 cl1 fp1 _ _ _ _ _ _ hS3 fun σ2 H2 chg h2 => ⟨?_, ?_⟩
        · rw [chg _ hws, wipe_wipe]
        · have back : ∀ {S : Stt} {T : List Slot} {tv : List V} {H : Hp} {s : ι}, Sta B S T σ2 tv H → Le B S (Sf s) → Sta B (Sf s) T σ tv H := fun {S T tv H s} h hle => by
            have h3 := (hle _ _ _ _ h).wip (hv s)
            rw [chg _ hws, wipe_wipe] at h3
            exact h3.unwip (hv s)
          intro s2 H02 C2 cl2 fp2
          refine hT s2 H02 C2 cl2 fp2 _ _ _ _ _ h2 fun H3 h3 => ?_
          cases p with
          | true =>
            rw [if_pos rfl]
            obtain ⟨y, Se, rfl, Sk, he, he2, hle'⟩ := hp1 rfl
            intro s3 H03 C3 cl3 fp3
            refine he s3 H03 C3 cl3 fp3 _ _ _ _ _ h3 fun w H4 h4 => ?_
            intro s4 H04 C4 cl4 fp4
            refine he2 s4 H04 C4 cl4 fp4 _ _ _ _ _ h4 fun w2 H5 h5 => ?_
            obtain ⟨gs, kd, hDv, hvl, h6⟩ := Sta.putT h5
            refine ⟨gs, _, kd, hDv, ?_, hlt, s', acc ++ [y], more', ?_, ?_, ?_, ?_⟩
            · rw [hvl]
              have := dOf_len acc
              exact Nat.lt_of_lt_of_le (Nat.lt_of_le_of_lt (Nat.le_trans this hacc) hlt) hlen
            · have e5 : (y :: more', sE') = (more, sE) := Option.some.inj e4
              cases e5
              exact e3
            · have e5 : (y :: more', sE') = (more, sE) := Option.some.inj e4
              cases e5
              rw [hys, List.append_assoc]
              rfl
            · rw [List.length_append]
              exact Nat.succ_le_succ hacc
            · rw [dOf_snoc]
              exact back h6 hle'
          | false =>
            rw [if_neg (by decide)]
            obtain ⟨rfl, hle'⟩ := hp0 rfl
            have e5 : (more', sE') = (more, sE) := Option.some.inj e4
            cases e5
            exact ⟨hlt, s', acc, _, e3, hys, Nat.le_succ_of_le hacc, back h3 hle'⟩
      · have e : i = xs.length := by omega
        subst e
        rw [List.drop_length] at hm
        have e5 : (([] : List (Int × β)), s) = (more, sE) := Option.some.inj hm
        cases e5
        have st := wk.stop _ _ _ _ _ (hok _) (rotz hS)
        rw [List.length_map] at st
        rw [List.append_nil] at hys
        subst hys
        refine .inl ⟨st, q _ _ ?_⟩
        obtain ⟨G, as, bs, z⟩ := hS
        obtain ⟨a1, a2, rfl, g1, z1⟩ := z.pop
        obtain ⟨a3, a4, rfl, g2, z2⟩ := z1.split hl.symm
        have sub : (a1 ++ a4 ++ bs).Sublist (a1 ++ (a3 ++ a4) ++ bs) := ((List.Sublist.refl a1).append (List.sublist_append_right a3 a4)).append (List.Sublist.refl bs)
        exact ⟨G, a1 ++ a4, bs, .cons g1 z2.tmp, z.cel, z.slo, sub.nodup z.nod, fun a ha => z.fre a (sub.mem ha), z.gro, z.new, z.sub, z.frm⟩
theorem je_dc {ι α β : Type} [DecidableEq α] [Datum α] [DecidableEq β] [Datum β] {xs : List α} {f : ι → α → Option (Option (Int × β) × ι)} {Sf : ι → Stt} {Sb : ι → α → Stt} {s0 sE : ι} {ys : List (Int × β)} {iter kx vx : Expr} {ifs : List Expr} {scope : Scope} {own : List (Str × Nat)} {zs : List Slot} {ok : Stt → Prop} {ws : List Nat}
    (hf : cmpM f xs s0 = some (ys, sE)) (hlen : xs.length ≤ 16777216) (hN : X.N.Nodup) (hbk : BlkOk X.N X.env.scope scope own)
    (hi : JI X B S tg iter S1 zs (xs.map Slot.val) ok) (h0 : Le B S1 (Sf s0)) (hok : ∀ s, ok (Sf s)) (hv : ∀ s, AnyAt (Sf s).sl (own.map (·.2))) (hws : ∀ i ∈ ws, i ∈ own.map (·.2))
    (hg : ∀ s x, Blk X scope fun Y => JG Y B (Sf s) tg (.val x) (Sb s x) ws)
    (hb : ∀ s x o s', x ∈ xs → f s x = some (o, s') → ∃ (p : Bool) (St : Stt), (Blk X scope fun Y => JTs Y B (Sb s x) ifs St p) ∧ (p = true → ∃ y Se, o = some y ∧ ∃ Sk, (Blk X scope fun Y => JE Y B St kx Sk (.val y.1)) ∧ (Blk X scope fun Y => JE Y B Sk vx Se (.val y.2)) ∧ Le B Se (Sf s')) ∧ (p = false → o = none ∧ Le B St (Sf s')))
    (hc : X.calm = true := by rfl) (hs : ∀ x, foldedSetIterable iter X.env x = pure x := by intro _; rfl) : JE X B S (.DictComp kx vx [⟨tg, iter, ifs, 0⟩] scope pos) (Sf sE) (.own (.dk (dks (dOf ys)) (dss (dOf ys)))) := fun T tv σ H Q h q =>
  pe1 (pe_dc (g := (fun v σ H Q => Blk X scope fun Y => tgOf Y tg v σ H Q)) (tt := (fun σ H Q => Blk X scope fun Y => ttsOf Y ifs σ H Q)) (tk := (fun σ H Q => Blk X scope fun Y => teOf Y kx σ H Q)) (tv := (fun σ H Q => Blk X scope fun Y => teOf Y vx σ H Q)) hc hN pi0 hbk (fun s H C cl fp => ⟨fun pins s' σ H' v u Q I r h => (h s H C cl fp).run pins s' u I r⟩) (fun s H C cl fp => ⟨fun pins s' σ H' Q I h => let ⟨_, hp, h'⟩ := h s H C cl fp; hp.run pins s' σ H' Q I h'⟩) (fun s H C cl fp => ⟨fun pins s' σ H' Q I h => (h s H C cl fp).run pins s' I⟩) (fun s H C cl fp => ⟨fun pins s' σ H' Q I h => (h s H C cl fp).run pins s' I⟩) hs) (dc_t hf hlen hN hbk hi h0 hok hv hws hg hb h q)
end
end J
namespace J
open PySem L2
open PySem.W (Datum)
/-! ### in a dict, as a value -/
section
end
end J
namespace J
open PySem PySem.Spec PyProof.Rows L2
open PySem.W (Datum)
/-! ### list(range(b)), list(range(a, b)) -/
section
end
end J
namespace J
open PySem L2
/-! ### a or b, where b changes things, ahead of two ways -/
section
end
end J
namespace J
open PySem PySem.Spec PyProof.Rows L2
open PySem.W (Datum)
/-! ### dict(a list of pairs) -/
section
end
section
/-! ### d.get(k), where k may be None -/
end
end J
namespace J
open PySem PySem.Spec PyProof.Rows L2
open PySem.W (Datum)
/-! ### a name that may be without a value -/
section
end
end J
namespace J
open PySem PySem.Spec PyProof.Rows L2
open PySem.W (Datum)
/-! ### a call whose told list of whole numbers is nobody else's -/
def AlS (s : Slot) : Prop := ∀ (G G' H : Hp) (v : V) (as : List Addr), SlI G H s v as → SlI G' H s v as
def AlC (c : Cel) : Prop := ∀ (G G' H : Hp) (o : HO) (as : List Addr), CeI G H c o as → CeI G' H c o as
inductive Als : List Slot → Prop where
  | nil : Als []
  | cons {s : Slot} {ss : List Slot} : AlS s → Als ss → Als (s :: ss)
inductive Alc : List (Addr × Cel) → Prop where
  | nil : Alc []
  | cons {p : Addr} {c : Cel} {cs : List (Addr × Cel)} : AlC c → Alc cs → Alc ((p, c) :: cs)
theorem als_int {i : Int} : AlS (.val i) := fun G G' H v as h => by
  obtain rfl := h.nil rfl
  cases (show Dq G v (.int i) from sl_dq h)
  exact .val (.int i)
theorem als_v {u : V} : AlS (.v u) := fun G G' H v as h => by
  cases h
  exact .v
theorem Als.ss : ∀ {ss : List Slot}, Als ss → ∀ {G G' H : Hp} {vs : List V} {as : List Addr}, SsI G H ss vs as → SsI G' H ss vs as
  | _, .nil, _, _, _, _, _, .nil => .nil
  | _, .cons h hs, _, _, _, _, _, .cons h1 h2 => .cons (h _ _ _ _ _ h1) (hs.ss h2)
theorem als_ints : ∀ ns : List Int, Als (ns.map Slot.val)
  | [] => .nil
  | _ :: ns => .cons als_int (als_ints ns)
theorem alc_ints {ns : List Int} : AlC (.lst (ns.map Slot.val)) := fun G G' H o as h => by
  cases h with
  | lst h => exact .lst ((als_ints ns).ss h)
theorem Alc.cs : ∀ {cs : List (Addr × Cel)}, Alc cs → ∀ {G G' H : Hp} {bs : List Addr}, CsI G H cs bs → CsI G' H cs bs
  | _, .nil, _, _, _, _, .nil => .nil
  | _, .cons h hs, _, _, _, _, .cons hp hc h2 => .cons hp (h _ _ _ _ _ hc) (hs.cs h2)
  | _, .cons h hs, _, _, _, _, .gone h2 => .gone (hs.cs h2)
theorem dq_ints {G G' H : Hp} : ∀ {ns : List Int} {vs : List V}, DqAll G vs (ns.map PyData.int) → SsI G' H (ns.map Slot.val) vs []
  | [], _, .nil => .nil
  | n :: ns, _, .cons (v := v) h1 h2 => by
    cases h1
    exact .cons (as := []) (.val (.int n)) (dq_ints h2)
open Classical in
theorem sp_thaw {γ : Type} (f : FS γ) {B : Base} {S : Stt} {xs T : List Slot} {σ : L2.St} {vs tv : List V} {H : Hp} {cs1 cs2 : List (Addr × Cel)} {Q : VK} {E : XK} {ns : List Int} (g : γ) (hpre : f.pre g) (hG : ∀ G', f.preG g G') (ha : f.args g = xs) (hl : vs.length = xs.length) (hk : Pk S.cs (f.cells g) cs1) (hb : Pt cs1 (f.cells' g) cs2)
    (hres : f.res g = .val ns) (hx : Als xs) (hc1 : Alc (f.cells g)) (hc2 : Alc (f.cells' g))
    (hs : Sta B S (xs ++ T) σ (vs ++ tv) H) (q : ∀ w H', Sta B ⟨S.sl, cs2⟩ (.own (.lst (ns.map Slot.val)) :: T) σ (w :: tv) H' → Q w H') : f.sp vs H Q E := by
  obtain ⟨G, as, bs, z⟩ := hs
  obtain ⟨a1, a2, rfl, g1, z'⟩ := z.split hl.symm
  obtain ⟨b1, b2, c1, c2, pm⟩ := CsI.takes hk z.cel
  have nd : (a1 ++ a2 ++ (b1 ++ b2)).Nodup := (List.Perm.append_left _ pm).nodup_iff.mpr z.nod
  have pm2 : ((a1 ++ b1) ++ (a2 ++ b2)).Perm (a1 ++ a2 ++ (b1 ++ b2)) := by
    rw [List.append_assoc, List.append_assoc]
    refine List.Perm.append_left _ ?_
    rw [← List.append_assoc, ← List.append_assoc]
    exact List.Perm.append_right _ List.perm_append_comm
  have nd2 := pm2.nodup_iff.mpr nd
  have fr : ∀ a ∈ (a1 ++ b1) ++ (a2 ++ b2), G a = none ∧ B.F a = none := fun a ha => z.fre a ((List.Perm.append_left _ pm).mem_iff.mp (pm2.mem_iff.mp ha))
  have dis := (List.nodup_append.mp nd2).2.2
  have def2 : ∀ a ∈ a2 ++ b2, ∃ o, H a = some o := fun a ha => (List.mem_append.mp ha).elim (fun h => z'.tmp.def a h) fun h => c2.def a h
  -- all that is there stays, but what is handed
  obtain ⟨F, hF⟩ : ∃ F : Hp, F = fun a => if a ∈ a2 ++ b2 then H a else match G a with | some o => some o | none => B.F a := ⟨_, rfl⟩
  have F2 : ∀ a ∈ a2 ++ b2, F a = H a := fun a h => by rw [hF]; exact if_pos h
  have FG : ∀ a o, G a = some o → F a = some o := fun a o h => by
    by_cases hm : a ∈ a2 ++ b2
    · have := (fr a (List.mem_append_right _ hm)).1
      rw [h] at this
      cases this
    · rw [hF]
      show (if a ∈ a2 ++ b2 then H a else _) = _
      rw [if_neg hm, h]
  have FF : ∀ a o, B.F a = some o → F a = some o := fun a o h => by
    by_cases hm : a ∈ a2 ++ b2
    · have := (fr a (List.mem_append_right _ hm)).2
      rw [h] at this
      cases this
    · rw [hF]
      show (if a ∈ a2 ++ b2 then H a else _) = _
      rw [if_neg hm]
      cases e : G a with
      | none => exact h
      | some o' =>
        have h1 := z.sub a o' e
        have h2 := z.frm a o h
        rw [h1] at h2
        exact h2
  have FH : ∀ a o, F a = some o → H a = some o := fun a o h => by
    by_cases hm : a ∈ a2 ++ b2
    · rw [F2 a hm] at h
      exact h
    · rw [hF] at h
      have h : (if a ∈ a2 ++ b2 then H a else match G a with | some o => some o | none => B.F a) = some o := h
      rw [if_neg hm] at h
      cases e : G a with
      | none =>
        rw [e] at h
        exact z.frm a o h
      | some o' =>
        rw [e] at h
        cases h
        exact z.sub a _ e
  have F0 : ∀ a, F a = none → G a = none ∧ B.F a = none ∧ a ∉ a2 ++ b2 := fun a h => by
    refine ⟨?_, ?_, fun hm => ?_⟩
    · cases e : G a with
      | none => rfl
      | some o => rw [FG a o e] at h; cases h
    · cases e : B.F a with
      | none => rfl
      | some o => rw [FF a o e] at h; cases h
    · obtain ⟨o, e⟩ := def2 a hm
      rw [F2 a hm, e] at h
      cases h
  have Ff : ∀ a, a ∈ a1 ++ b1 → F a = none := fun a h => by
    have f1 := fr a (List.mem_append_left _ h)
    rw [hF]
    show (if a ∈ a2 ++ b2 then H a else _) = _
    rw [if_neg fun hm => dis a h a hm rfl, f1.1]
    exact f1.2
  refine ⟨g, ⟨fun _ => none, F⟩, hpre, hG _, ?_, fun v H' ho => ?_⟩
  · rw [ha]
    exact ⟨fun _ => none, a1, b1, hx.ss g1, hc1.cs c1, ⟨rfl, fun i s hs => by simp at hs⟩, (List.nodup_append.mp nd2).1, fun a ha => ⟨rfl, Ff a ha⟩, Ex.refl _, fun a o h => .inl h, (fun a o h => nomatch h), fun a o h => FH a o h⟩
  · rw [hres] at ho
    obtain ⟨G', as', bs', y⟩ := ho
    have keep : ∀ a ∈ a2 ++ b2, H' a = H a := fun a ha => by
      obtain ⟨o, e⟩ := def2 a ha
      rw [e]
      exact y.frm a o (show F a = some o by rw [F2 a ha]; exact e)
    have y1 := y.tmp
    cases y1 with
    | @cons _ _ r1 _ _ r2 s1 s2 =>
      cases s2
      obtain rfl := s1.nil rfl
      cases (show Dq G' v (.list (ns.map PyData.int)) from sl_dq s1) with
      | @lst l vs _ hl' hall =>
        have lF := F0 l (match y.new l _ hl' with
          | .inl z => nomatch z
          | .inr (.inl z) => z
          | .inr (.inr ⟨_, z⟩) => nomatch z)
        have hH' := y.sub l _ hl'
        have own' : ∀ a ∈ bs', G a = none ∧ a ∉ a2 ++ b2 ∧ B.F a = none ∧ a ≠ l := fun a ha => by
          obtain ⟨h1, h2⟩ := y.fre a (by simpa using ha)
          obtain ⟨k1, k2, k3⟩ := F0 a h2
          exact ⟨k1, k3, k2, fun e => by subst e; rw [hl'] at h1; cases h1⟩
        have old' : ∀ a ∈ a2 ++ b2, G a = none ∧ B.F a = none := fun a ha => fr a (List.mem_append_right _ ha)
        obtain ⟨b, cb, pb⟩ := CsI.puts hb (c2.mono (Ex.refl G) fun a ha => keep a (List.mem_append_right _ ha)) (hc2.cs y.cel)
        have tmp' : SsI G H' (.own (.lst (ns.map Slot.val)) :: T) (.ref l :: tv) ((l :: []) ++ a2) := .cons (.own hH' (.lst (dq_ints hall))) (z'.tmp.mono (Ex.refl G) fun a ha => keep a (List.mem_append_left _ ha))
        have pm3 : ((l :: []) ++ a2 ++ b).Perm ((l :: bs') ++ (a2 ++ b2)) := by
          have e1 := List.Perm.append_left ((l :: []) ++ a2) pb
          refine e1.trans ?_
          show (l :: (a2 ++ (bs' ++ b2))).Perm (l :: (bs' ++ (a2 ++ b2)))
          refine List.Perm.cons _ ?_
          rw [← List.append_assoc, ← List.append_assoc]
          exact List.Perm.append_right _ List.perm_append_comm
        have ndb : bs'.Nodup := by simpa using y.nod
        have nd3 : ((l :: []) ++ a2 ++ b).Nodup := pm3.nodup_iff.mpr (List.nodup_append.mpr ⟨List.nodup_cons.mpr ⟨fun h => (own' l h).2.2.2 rfl, ndb⟩, (List.nodup_append.mp nd2).2.1, fun a ha c hc e => by
          subst e
          rcases List.mem_cons.mp ha with rfl | ha
          · exact lF.2.2 hc
          · exact (own' a ha).2.1 hc⟩)
        refine q _ H' ⟨G, (l :: []) ++ a2, b, tmp', cb, z.slo, nd3, fun a ha => ?_, z.gro, z.new, fun a o h => y.frm a o (FG a o h), fun a o h => y.frm a o (FF a o h)⟩
        rcases List.mem_append.mp (pm3.mem_iff.mp ha) with h | h
        · rcases List.mem_cons.mp h with rfl | h
          · exact ⟨lF.1, lF.2.1⟩
          · exact ⟨(own' a h).1, (own' a h).2.2.1⟩
        · exact old' a h
section
variable {X : Cx} {B : Base} {S S1 S2 S3 : Stt} {x y z : Slot} {a b e o : Expr} {es : List Expr} {pos apos : Pos} {D : FE} {rest : List Stmt} {k : Nat} {tg : Expr}
/-- f(e, ..), a def of the text; the told list is new -/
theorem je_callW {γ : Type} {f : FS γ} {fa : Addr} {fd : FuncData} {ps : List Str} {n : Str} {p : Pos} {xs : List Slot} {cs1 cs2 : List (Addr × Cel)} {ns : List Int} (F : FnOk X.prog X.w X.K X.mg X.base CX0 k fa fd ps f.sp) {lv : Nat} (hr : Room lv X.A) (hlv : k ≤ lv) (hm : X.mg n = some (.ref fa)) (hk : PySem.W.keepIn X.K (.ref fa) = true) (hb : Binds X.K fd ps [])
    (ha : JA X B S (e :: es) S1 xs) (g : γ) (hpre : f.pre g) (hx : f.args g = xs) (hpk : Pk S1.cs (f.cells g) cs1) (hpt : Pt cs1 (f.cells' g) cs2) (hres : f.res g = .val ns) (al : Als (f.args g)) (al1 : Alc (f.cells g)) (al2 : Alc (f.cells' g)) (hG : ∀ G', f.preG g G' := by exact fun _ => trivial) (hg : Gl X n := by rfl) (hdb : (n == ("__debug__" : Str)) = false := by decide) (he : starEach (e :: es) X.env = (false, eval e X.env) :: starEach es X.env := by rfl) (hpl : (backTo pos (starEach es X.env)).any (·.1) = false := by rfl) :
    JE X B S (.Call (.Name n p) (e :: es) [] pos) ⟨S1.sl, cs2⟩ (.own (.lst (ns.map Slot.val))) := fun T tv σ H Q h q =>
  pe1 (pe_call F (hr.mono hlv) hg hm hk hb .nil pass0 pa0 hdb he hpl) (ha _ _ _ _ _ h fun vs H1 hl h1 => by
    rw [List.append_nil]
    exact sp_thaw f g hpre hG hx hl hpk hpt hres (hx ▸ al) al1 al2 h1 q)
end
end J
namespace J
open PySem PySem.Spec PyProof.Rows L2
open PySem.W (Datum DatumOrd)
/-! ### dicts by pairs of whole numbers -/
section
end
section
/-! ### t[1:3] of four -/
/-! ### a text that a global has -/
end
/-! ### max(xs, default=d) -/
section
end
end J
namespace J
open PySem PySem.Spec PyProof.Rows L2
open PySem.W (Datum)
/-! ### d.pop(k), k a pair -/
section
end
/-! ### a and b, where b changes things, ahead of two ways -/
section
end
end J
namespace J
open PySem PySem.Spec PyProof.Rows L2
open PySem.W (Datum)
/-! ### a def that is called with nothing being shown: the law itself -/
/-! the head -/
/-! ### data of no one kind; its text -/
def rawS (d : PyData) : Slot := .say (fun G u => Dq G u d)
theorem rawS_mono (d : PyData) : Mono fun G u => Dq G u d := fun _ _ _ e h => dq_mono e h
/-- what a slot shows -/
def Rw (x : Slot) (d : PyData) : Prop := ∀ (G H : Hp) (u : V) (as : List Addr), SlI G H x u as → Dq G u d
theorem rw_raw {d : PyData} : Rw (rawS d) d := fun _ _ _ _ h => by
  cases h with
  | say _ h => exact h
section
end
section
end
/-! lists of data of any kind, for good -/
inductive RwA : List Slot → List PyData → Prop where
  | nil : RwA [] []
  | non {ss : List Slot} {ds : List PyData} (h : RwA ss ds) : RwA (.v .non :: ss) (.none :: ds)
  | val {α : Type} [DecidableEq α] [Datum α] {t : α} {ss : List Slot} {ds : List PyData} (h : RwA ss ds) : RwA (.val t :: ss) (Datum.toD t :: ds)
  | raw {d : PyData} {ss : List Slot} {ds : List PyData} (h : RwA ss ds) : RwA (rawS d :: ss) (d :: ds)
theorem RwA.dq {G G' H : Hp} : ∀ {ss : List Slot} {ds : List PyData} {vs : List V} {as : List Addr}, RwA ss ds → SsI G H ss vs as → Ex G G' → DqAll G' vs ds
  | _, _, _, _, .nil, .nil, _ => .nil
  | _, _, _, _, @RwA.val α i1 i2 t ss ds h, .cons s1 s2, e => .cons (dq_mono e (@sl_dq α i1 i2 _ _ _ _ t s1)) (h.dq s2 e)
  | _, _, _, _, .raw h, .cons s1 s2, e => .cons (dq_mono e (rw_raw _ _ _ _ s1)) (h.dq s2 e)
  | _, _, _, _, .non h, .cons s1 s2, e => by
    cases s1
    exact .cons .non (h.dq s2 e)
section
end
end J
namespace J
open PySem PySem.Spec PyProof.Rows L2
open PySem.W (Datum)
/-! ### texts put together; data of no one kind made longer; refusals within lists -/
theorem RwA.app : ∀ {s1 s2 : List Slot} {d1 d2 : List PyData}, RwA s1 d1 → RwA s2 d2 → RwA (s1 ++ s2) (d1 ++ d2)
  | _, _, _, _, .nil, h => h
  | _, _, _, _, .non h1, h => .non (h1.app h)
  | _, _, _, _, @RwA.val α i1 i2 t ss ds h1, h => @RwA.val α i1 i2 t _ _ (h1.app h)
  | _, _, _, _, .raw h1, h => .raw (h1.app h)
section
end
end J
namespace J
open PySem PySem.Spec PyProof.Rows L2
open PySem.W (Datum)
/-! ### dicts by pairs, gone through; a named list's text -/
section
end
section
end
end J
namespace J
universe u w
open PySem PySem.Spec PyProof.Rows L2
open PySem.W (Datum)
section
variable {X : Cx} {B : Base} {S S1 S2 S3 : Stt} {x y z : Slot} {a b e o tg : Expr} {es : List Expr} {pos apos : Pos} {D : FE} {rest : List Stmt}
/-! ### loops over things of any slot -/
theorem js_forEV {π ι α : Type} {ei : α → Slot} {xs : List α} {f : ι → α → Option ι} {Sf : π → ι → Stt} {Sb : π → ι → α → Stt} {s0 sE : ι} {tg iter : Expr} {body : List Stmt} {zs : List Slot} {ok : Stt → Prop} (hf : forM f xs s0 = some sE)
    (hi : JI X B S tg iter S1 zs (xs.map ei) ok) (h0 : ∀ T tv σ H, Sta B S1 T σ tv H → ∃ q, Sta B (Sf q s0) T σ tv H) (hok : ∀ q s, ok (Sf q s))
    {ws : List Nat} (hg : ∀ q s x, JG X B (Sf q s) tg (ei x) (Sb q s x) ws) (hb : ∀ q s x s', x ∈ xs → f s x = some s' → JS X B (Sb q s x) body { nx := toE B fun q => Sf q s', rt := D.rt, ct := toE B fun q => Sf q s' })
    (k : ∀ q, JS X B (Sf q sE) rest D) (hc : X.calm = true := by rfl) (hp : PassesOwn (model X.prog X.w) X.A X.env X.xe := by exact PassesOwn.never) (hs : ∀ x, foldedSetIterable iter X.env x = pure x := by intro _; rfl) : JS X B S (.For tg iter body [] pos :: rest) D := by
  refine js_step (ps_for hp hc pi0 pg0 pb0 hs) fun T tv σ H h => hi _ _ _ _ _ h fun J zv H1 hl h1 wk => ?_
  refine ⟨fun i m σ H => m = xs.length - i ∧ i ≤ xs.length ∧ ∃ s, forM f (xs.drop i) s = some sE ∧ ∃ q, Sta B (Sf q s) (zs ++ T) σ (zv ++ tv) H, ⟨xs.length, by simp, Nat.zero_le _, s0, hf, h0 _ _ _ _ h1⟩, ?_⟩
  rintro i m σ H ⟨rfl, hle, s, hs', q, hS⟩
  by_cases hlt : i < xs.length
  · rw [List.drop_eq_getElem_cons hlt] at hs'
    refine bnd hs' fun s2 e1 e2 => .inr ?_
    have hx : (xs.map ei)[i]? = some (ei xs[i]) := by rw [List.getElem?_map, List.getElem?_eq_getElem hlt]; rfl
    obtain ⟨w1, w2⟩ := wk.go _ _ _ _ _ i _ (hok q s) hx hS
    refine ⟨w1, toE B (fun q => Sf q s2) (zs ++ T) (zv ++ tv), fun σ' H' g => ⟨xs.length - (i + 1), by omega, rfl, hlt, s2, e2, g⟩, fun v H' y => ?_⟩
    exact hg q s xs[i] _ _ _ _ _ _ (w2 v H' y) fun σ3 H3 _ g3 => ⟨fun pins st I => thn ((hb q s xs[i] s2 (List.getElem_mem hlt) e1 _ _ _ _ g3).run pins st I) fun fl s2 q => by
        cases fl with
        | next => exact q
        | cont => exact q
        | brk => obtain ⟨_, _, _, z⟩ := q; exact z.elim
        | ret u => exact q⟩
  · have e : i = xs.length := by omega
    subst e
    rw [List.drop_length] at hs'
    cases hs'
    have st := wk.stop _ _ _ _ _ (hok _ _) hS
    rw [List.length_map] at st
    exact .inl ⟨st, k q _ _ _ _ (Sta.drops hl hS)⟩
end
/-! ### lists of things of our own -/
section
variable {X : Cx} {B : Base} {S S1 S2 S3 : Stt} {x y z : Slot} {a b e o tg : Expr} {es : List Expr} {pos apos : Pos} {D : FE} {rest : List Stmt} {T : List Slot} {σ : L2.St} {tv : List V} {H : Hp} {p : Addr} {cs : List Cel}
/-- a cell that is held as a temporary thing is laid back -/
theorem Sta.back (k : Nat) {c : Cel} {q0 : Addr} {c0 : Cel} (hk : S.cs[k]? = some (q0, c0)) (hg : c0 = .gone) (h : Sta B S (.own c :: T) σ (.ref p :: tv) H) : Sta B ⟨S.sl, S.cs.set k (p, c)⟩ T σ tv H := by
  subst hg
  obtain ⟨G, as0, bs, z⟩ := h
  obtain ⟨a1, a2, rfl, g, z'⟩ := z.pop
  cases g with
  | @own _ _ o m hp hc =>
    obtain ⟨b, cb, pb⟩ := CsI.puts (Pt.cons k hk .nil) z'.cel (CsI.cons hp hc .nil)
    have pm : (a2 ++ b).Perm ((p :: m) ++ a2 ++ bs) := by
      have e1 : (a2 ++ b).Perm (a2 ++ ((p :: (m ++ [])) ++ bs)) := List.Perm.append_left _ pb
      rw [List.append_nil] at e1
      refine e1.trans ?_
      rw [← List.append_assoc]
      exact List.Perm.append_right _ List.perm_append_comm
    exact ⟨G, a2, b, z'.tmp, cb, z.slo, pm.nodup_iff.mpr z.nod, fun a ha => z.fre a (pm.mem_iff.mp ha), z.gro, z.new, z.sub, z.frm⟩
theorem Sta.lift (k : Nat) {c : Cel} (hk : S.cs[k]? = some (p, c)) (hg : c ≠ .gone) (h : Sta B S T σ tv H) : Sta B ⟨S.sl, S.cs.set k (p, .gone)⟩ (.own c :: T) σ (.ref p :: tv) H := (h.push (x := .v (.ref p)) (v := .ref p) fun _ _ => .v).own k hk hg
end
end J
namespace J
open PySem PySem.Spec PyProof.Rows L2
open PySem.W (Datum)
/-! ### a queue of pairs that are lists -/
section
end
end J
namespace J
universe u w
open PySem PySem.Spec PyProof.Rows L2
open PySem.W (Datum)
/-! ### parts taken in again where their things stand; states changed behind and ahead of readings -/
section
variable {X : Cx} {B : Base} {S S1 S2 S3 : Stt} {x y z : Slot} {a b e o tg : Expr} {es : List Expr} {pos apos : Pos} {D : FE} {rest : List Stmt} {T : List Slot} {σ : L2.St} {tv : List V} {H : Hp} {p q : Addr} {c d : Cel} {v : V}
theorem get_set_ne {α : Type _} {l : List α} {i j : Nat} {x y : α} (h : i ≠ j) (e : l[j]? = some y) : (l.set i x)[j]? = some y := by rw [List.getElem?_set_ne h]; exact e
theorem Le.trans {S S1 S2 : Stt} (h1 : Le B S S1) (h2 : Le B S1 S2) : Le B S S2 := fun _ _ _ _ h => h2 _ _ _ _ (h1 _ _ _ _ h)
theorem js_le (l : Le B S S1) (h : JS X B S1 rest D) : JS X B S rest D := fun T tv σ H hs => h _ _ _ _ (l _ _ _ _ hs)
/-! ### a thing of our own, or a plain one, stored in a thing -/
variable {ks : List Key} {ss : List Slot} {key : Str} {kk : Nat}
variable {fs : List (Str × Slot)} {f m : Str} {C : Addr}
/-! ### lists: plain things among owned ones -/
end
/-! ### lists of things of our own, of one kind -/
section
variable {α : Type} {f : α → Cel} {xs ys : List α} {X : Cx} {B : Base} {S S1 S2 S3 : Stt} {x y z : Slot} {a b e o tg : Expr} {es : List Expr} {pos apos : Pos} {D : FE} {rest : List Stmt} {T : List Slot} {σ : L2.St} {tv : List V} {H : Hp} {p q : Addr} {v : V} {n : Nat} {i : Int}
def mlC (f : α → Cel) (xs : List α) : Cel := .lst (xs.map fun x => .own (f x))
end
/-! ### defs that promise this or that -/
/-! ### calls of methods and makers with keywords -/
section
end
end J
namespace J
open PySem PySem.Spec PyProof.Rows L2
open PySem.W (Datum)
section
end
end J
namespace J
open PySem PySem.Spec PyProof.Rows L2
open PySem.W (Datum)
/-! ### sorted(d), whole numbers as keys, however many -/
/-! ### sorted(d) -/
section
end
/-! ### dicts of things of our own -/
section
end
end J
namespace J
open PySem PySem.Spec PyProof.Rows L2
open PySem.W (Datum)
section
end
end J
namespace J
open PySem PySem.Spec PyProof.Rows L2
open PySem.W (Datum)
section
end
end J
namespace J
end J
namespace J
open PySem PySem.Spec PyProof.Rows L2
open PySem.W (Datum)
section
end
end J
namespace J
open PySem PySem.Spec PyProof.Rows L2
open PySem.W (Datum)
/-! ### lists of things of many kinds, told -/
section
end
/-! ### what a value is now, by all of the heap -/
mutual
inductive Tl (cs : List (Addr × Cel)) : Slot → PyData → Prop where
  | val {α : Type} [DecidableEq α] [Datum α] {t : α} : Tl cs (.val t) (Datum.toD t)
  | non : Tl cs (.v .non) .none
  | own {c : Cel} {d : PyData} : TlC cs c d → Tl cs (.own c) d
  | ref (k : Nat) {p : Addr} {c : Cel} {d : PyData} : cs[k]? = some (p, c) → TlC cs c d → Tl cs (.v (.ref p)) d
inductive TlC (cs : List (Addr × Cel)) : Cel → PyData → Prop where
  | lst {ss : List Slot} {ds : List PyData} : Tls cs ss ds → TlC cs (.lst ss) (.list ds)
inductive Tls (cs : List (Addr × Cel)) : List Slot → List PyData → Prop where
  | nil : Tls cs [] []
  | cons {s : Slot} {d : PyData} {ss : List Slot} {ds : List PyData} : Tl cs s d → Tls cs ss ds → Tls cs (s :: ss) (d :: ds)
end
section
variable {cs : List (Addr × Cel)}
variable {G H : Hp}
mutual
theorem Tl.dq {bs : List Addr} (hc : CsI G H cs bs) (e : Ex G H) : ∀ {s : Slot} {d : PyData} {u : V} {as : List Addr}, Tl cs s d → SlI G H s u as → Dq H u d
  | _, _, _, _, @Tl.val _ α i1 i2 t, h => by cases h with | val h => exact dq_mono e h
  | _, _, _, _, .non, .v => .non
  | _, _, _, _, .own t, .own hp h => TlC.dq hc e t hp h
  | _, _, _, _, .ref k hk t, .v => by
    obtain ⟨l, o, m, r, _, hp, h, _⟩ := CsI.at k hc hk (by rintro rfl; cases t)
    exact TlC.dq hc e t hp h
theorem TlC.dq {bs : List Addr} (hc : CsI G H cs bs) (e : Ex G H) : ∀ {c : Cel} {d : PyData} {p : Addr} {o : HO} {as : List Addr}, TlC cs c d → H p = some o → CeI G H c o as → Dq H (.ref p) d
  | _, _, _, _, _, .lst t, hp, .lst h => .lst hp (Tls.dq hc e t h)
theorem Tls.dq {bs : List Addr} (hc : CsI G H cs bs) (e : Ex G H) : ∀ {ss : List Slot} {ds : List PyData} {us : List V} {as : List Addr}, Tls cs ss ds → SsI G H ss us as → DqAll H us ds
  | _, _, _, _, .nil, .nil => .nil
  | _, _, _, _, .cons t ts, .cons h hs => .cons (Tl.dq hc e t h) (Tls.dq hc e ts hs)
end
end
/-- data that are no places -/
inductive Scal : PyData → Prop where
  | non : Scal .none
  | bl (b : Bool) : Scal (.bool b)
  | int (i : Int) : Scal (.int i)
  | str (x : Str) : Scal (.str x)
theorem Scal.any {d : PyData} {G G' : Hp} {v : V} (s : Scal d) (h : Dq G v d) : Dq G' v d := by
  cases s with
  | non => cases h; exact .non
  | bl b => cases h; exact .bl b
  | int i => cases h; exact .int i
  | str x => cases h; exact .str x
inductive Vals9 : List Slot → List PyData → Prop where
  | nil : Vals9 [] []
  | cons {α : Type} [DecidableEq α] [Datum α] {t : α} {ss : List Slot} {ds : List PyData} : Vals9 ss ds → Vals9 (.val t :: ss) (Datum.toD t :: ds)
theorem Vals9.ss {G H : Hp} : ∀ {ss : List Slot} {ds : List PyData} {us : List V}, Vals9 ss ds → DqAll G us ds → SsI G H ss us []
  | _, _, _, .nil, h => by cases h; exact .nil
  | _, _, _, @Vals9.cons α i1 i2 t ss ds v, h => by
    cases h with
    | cons h1 h2 => exact .cons (as := []) (.val h1) (v.ss h2)
section
/-! ### parts of such lists -/
end
end J
namespace J
open PySem PySem.Spec PyProof.Rows L2
open PySem.W (Datum)
section
end
end J
namespace J
open PySem PySem.Spec PyProof.Rows L2
open PySem.W (Datum)
section
end
section
end
end J
namespace J
open PySem PySem.Spec PyProof.Rows L2
open PySem.W (Datum)
section
end
end J
namespace J
open PySem PySem.Spec PyProof.Rows L2
open PySem.W (Datum)
/-! ### data of no one kind: looked at -/
section
variable {X : Cx} {B : Base} {S S1 S2 S3 : Stt} {x y z : Slot} {a b e o : Expr} {es : List Expr} {pos apos cpos : Pos} {D : FE} {rest : List Stmt} {k lv : Nat} {p : Addr} {d d2 : PyData}
theorem sl_raw {G H : Hp} {v : V} {as : List Addr} (h : SlI G H (rawS d) v as) : Dq G v d ∧ as = [] := by
  cases h with
  | say _ h => exact ⟨h, rfl⟩
/-! ### calls that only look, of data -/
inductive ValsR : List Slot → List PyData → Prop where
  | nil : ValsR [] []
  | cons {α : Type} [DecidableEq α] [Datum α] {t : α} {ss : List Slot} {ds : List PyData} : ValsR ss ds → ValsR (.val t :: ss) (Datum.toD t :: ds)
  | raw {d : PyData} {ss : List Slot} {ds : List PyData} : ValsR ss ds → ValsR (rawS d :: ss) (d :: ds)
theorem ValsR.ss {G H : Hp} : ∀ {ss : List Slot} {ds : List PyData} {us : List V}, ValsR ss ds → DqAll G us ds → SsI G H ss us []
  | _, _, _, .nil, h => by cases h; exact .nil
  | _, _, _, @ValsR.cons α i1 i2 t ss ds v, h => by
    cases h with
    | cons h1 h2 => exact .cons (as := []) (.val h1) (v.ss h2)
  | _, _, _, .raw v, h => by
    cases h with
    | cons h1 h2 => exact .cons (as := []) (.say (rawS_mono _) h1) (v.ss h2)
mutual
inductive TlR (cs : List (Addr × Cel)) : Slot → PyData → Prop where
  | val {α : Type} [DecidableEq α] [Datum α] {t : α} : TlR cs (.val t) (Datum.toD t)
  | raw {d : PyData} : TlR cs (rawS d) d
  | non : TlR cs (.v .non) .none
  | own {c : Cel} {d : PyData} : TlRC cs c d → TlR cs (.own c) d
  | ref (k : Nat) {p : Addr} {c : Cel} {d : PyData} : cs[k]? = some (p, c) → TlRC cs c d → TlR cs (.v (.ref p)) d
inductive TlRC (cs : List (Addr × Cel)) : Cel → PyData → Prop where
  | lst {ss : List Slot} {ds : List PyData} : TlRs cs ss ds → TlRC cs (.lst ss) (.list ds)
inductive TlRs (cs : List (Addr × Cel)) : List Slot → List PyData → Prop where
  | nil : TlRs cs [] []
  | cons {s : Slot} {d : PyData} {ss : List Slot} {ds : List PyData} : TlR cs s d → TlRs cs ss ds → TlRs cs (s :: ss) (d :: ds)
end
section
variable {cs : List (Addr × Cel)}
variable {G H : Hp}
mutual
theorem TlR.dq {bs : List Addr} (hc : CsI G H cs bs) (e : Ex G H) : ∀ {s : Slot} {d : PyData} {u : V} {as : List Addr}, TlR cs s d → SlI G H s u as → Dq H u d
  | _, _, _, _, @TlR.val _ α i1 i2 t, h => by cases h with | val h => exact dq_mono e h
  | _, _, _, _, .raw, h => dq_mono e (sl_raw h).1
  | _, _, _, _, .non, .v => .non
  | _, _, _, _, .own t, .own hp h => TlRC.dq hc e t hp h
  | _, _, _, _, .ref k hk t, .v => by
    obtain ⟨l, o, m, r, _, hp, h, _⟩ := CsI.at k hc hk (by rintro rfl; cases t)
    exact TlRC.dq hc e t hp h
theorem TlRC.dq {bs : List Addr} (hc : CsI G H cs bs) (e : Ex G H) : ∀ {c : Cel} {d : PyData} {p : Addr} {o : HO} {as : List Addr}, TlRC cs c d → H p = some o → CeI G H c o as → Dq H (.ref p) d
  | _, _, _, _, _, .lst t, hp, .lst h => .lst hp (TlRs.dq hc e t h)
theorem TlRs.dq {bs : List Addr} (hc : CsI G H cs bs) (e : Ex G H) : ∀ {ss : List Slot} {ds : List PyData} {us : List V} {as : List Addr}, TlRs cs ss ds → SsI G H ss us as → DqAll H us ds
  | _, _, _, _, .nil, .nil => .nil
  | _, _, _, _, .cons t ts, .cons h hs => .cons (TlR.dq hc e t h) (TlRs.dq hc e ts hs)
end
end
end
end J
namespace J
open PySem
end J
namespace J
open PySem PySem.Spec PyProof.Rows L2
open PySem.W (Datum)
/-! ### sorted(d), pairs as keys -/
section
end
end J
namespace J
open PySem PySem.Spec PyProof.Rows L2
open PySem.W (Datum)
/-! ### xs[::c], c one or minus one -/
end J
namespace J
open PySem PySem.Spec PyProof.Rows L2
open PySem.W (Datum)
/-! ### methods that refuse -/
section
end
end J
namespace J
open PySem PySem.Spec PyProof.Rows L2
open PySem.W (Datum)
end J
namespace J
open PySem PySem.Spec PyProof.Rows L2
open PySem.W (Datum)
/-! ### a list, told or not, against an empty one; or -/
section
end
end J
namespace J
open PySem PySem.Spec PyProof.Rows L2
open PySem.W (Datum)
/-! ### lists of things of our own, gone through: where each stands is known -/
section
variable {B : Base} {S : Stt}
theorem Sta.foldA {T : List Slot} {σ : L2.St} {tv : List V} {H : Hp} {q : Addr} {v : V} {c d : Cel} (h : Sta B S (.own c :: T) σ (v :: tv) H) (k j : Nat) (hj : c.nth j = some (.v (.ref q))) (hk : S.cs[k]? = some (q, d)) (hg : d ≠ .gone) : Sta B ⟨S.sl, S.cs.set k (q, .gone)⟩ (.own (c.sub j (.ownA q d)) :: T) σ (v :: tv) H := by
  obtain ⟨G, as, bs, z⟩ := h
  obtain ⟨a1, a2, rfl, g, z'⟩ := z.pop
  cases g with
  | @own _ p o m hp hc =>
    obtain ⟨l, od, md, r, rfl, hq, hd, reb⟩ := z.cel.at k hk hg
    obtain ⟨b1, u, m1, b2, rfl, hs1, reb2⟩ := hc.part j hj
    cases hs1 with
    | v =>
      have c2 := reb2 (.ownA hq hd)
      have pm : ((p :: (b1 ++ (q :: md) ++ b2)) ++ a2 ++ (l ++ r)).Perm ((p :: (b1 ++ [] ++ b2)) ++ a2 ++ (l ++ (q :: md) ++ r)) := by
        rw [List.append_nil]
        have e1 : ((p :: (b1 ++ (q :: md) ++ b2)) ++ a2 ++ (l ++ r)).Perm ((q :: md) ++ ((p :: (b1 ++ b2)) ++ a2 ++ (l ++ r))) := by
          have f1 : (p :: (b1 ++ (q :: md) ++ b2)).Perm ((q :: md) ++ (p :: (b1 ++ b2))) := by
            have g1 : (b1 ++ (q :: md) ++ b2).Perm ((q :: md) ++ (b1 ++ b2)) := by
              rw [← List.append_assoc]
              exact List.Perm.append_right _ List.perm_append_comm
            have g2 : (p :: ((q :: md) ++ (b1 ++ b2))).Perm ((q :: md) ++ (p :: (b1 ++ b2))) := List.perm_middle.symm
            exact (List.Perm.cons p g1).trans g2
          have f2 := List.Perm.append_right (l ++ r) (List.Perm.append_right a2 f1)
          rw [List.append_assoc (q :: md), List.append_assoc (q :: md)] at f2
          exact f2
        refine e1.trans ?_
        have e2 : (l ++ (q :: md) ++ r).Perm ((q :: md) ++ (l ++ r)) := by
          rw [← List.append_assoc]
          exact List.Perm.append_right _ List.perm_append_comm
        have e3 := List.Perm.append_left ((p :: (b1 ++ b2)) ++ a2) e2
        refine List.Perm.trans ?_ e3.symm
        rw [← List.append_assoc, ← List.append_assoc ((p :: (b1 ++ b2)) ++ a2)]
        exact List.Perm.append_right _ List.perm_append_comm
      exact ⟨G, _, l ++ r, .cons (.own hp c2) z'.tmp, (reb (Ex.refl G) fun _ _ => rfl).2 q, z.slo, pm.nodup_iff.mpr z.nod, fun a ha => z.fre a (pm.mem_iff.mp ha), z.gro, z.new, z.sub, z.frm⟩end
section
variable {X : Cx} {B : Base} {S S1 S2 S3 : Stt} {x y z : Slot} {a b e o tg : Expr} {es : List Expr} {pos apos : Pos} {D : FE} {rest : List Stmt} {T : List Slot} {σ : L2.St} {tv : List V} {H : Hp} {p q : Addr} {c d : Cel} {v : V}
theorem Sta.foldAtA (k k2 j : Nat) (hk : S.cs[k]? = some (p, c)) (hj : c.nth j = some (.v (.ref q))) (hk2 : S.cs[k2]? = some (q, d)) (hne : k ≠ k2) (hgc : c ≠ .gone) (hg : d ≠ .gone) (h : Sta B S T σ tv H) : Sta B ⟨S.sl, (S.cs.set k (p, c.sub j (.ownA q d))).set k2 (q, .gone)⟩ T σ tv H := by
  have h1 := h.lift k hk hgc
  have h2 := h1.foldA k2 j hj (S := ⟨S.sl, S.cs.set k (p, .gone)⟩) (get_set_ne hne hk2) hg
  obtain ⟨hlt, _⟩ := List.getElem?_eq_some_iff.mp hk
  have h3 := h2.back k (S := ⟨S.sl, (S.cs.set k (p, .gone)).set k2 (q, .gone)⟩) (q0 := p) (c0 := .gone) (get_set_ne (Ne.symm hne) (by rw [List.getElem?_set, if_pos rfl, if_pos hlt])) rfl
  have e : ((S.cs.set k (p, Cel.gone)).set k2 (q, Cel.gone)).set k (p, c.sub j (.ownA q d)) = (S.cs.set k (p, c.sub j (.ownA q d))).set k2 (q, .gone) := by
    rw [List.set_comm _ _ (Ne.symm hne), List.set_set]
  have h4 : Sta B ⟨S.sl, ((S.cs.set k (p, Cel.gone)).set k2 (q, Cel.gone)).set k (p, c.sub j (.ownA q d))⟩ T σ tv H := h3
  rw [e] at h4
  exact h4
theorem Sta.openAt (k j : Nat) (hk : S.cs[k]? = some (p, c)) (hj : c.nth j = some (.ownA q d)) (hs : Sta B S T σ tv H) : Sta B ⟨S.sl, S.cs.set k (p, c.sub j (.v (.ref q))) ++ [(q, d)]⟩ T σ tv H := by
  obtain ⟨G, as, bs, z⟩ := hs
  have hg : c ≠ .gone := by intro e; subst e; cases hj
  obtain ⟨l, o, m, r, rfl, hp, hc, reb⟩ := z.cel.at k hk hg
  obtain ⟨a1, u, m1, a2, rfl, hs1, reb2⟩ := hc.part j hj
  cases hs1 with
  | @ownA _ q od mq hq hd =>
    have c2 := (reb (Ex.refl G) fun _ _ => rfl).1 hp (reb2 (.v : SlI G H (.v (.ref q)) (.ref q) []))
    have c3 := c2.app (.cons hq hd .nil)
    have pm : (l ++ p :: (a1 ++ [] ++ a2) ++ r ++ (q :: (mq ++ []))).Perm (l ++ p :: (a1 ++ q :: mq ++ a2) ++ r) := by
      simp only [List.append_nil, List.append_assoc, List.cons_append]
      refine List.Perm.append_left l (List.Perm.cons p (List.Perm.append_left a1 ?_))
      have e1 : ((a2 ++ r) ++ (q :: mq)).Perm ((q :: mq) ++ (a2 ++ r)) := List.perm_append_comm
      simpa only [List.append_assoc, List.cons_append] using e1
    have pm2 := List.Perm.append_left as pm
    exact ⟨G, as, _, z.tmp, c3, z.slo, pm2.nodup_iff.mpr z.nod, fun a ha => z.fre a (pm2.mem_iff.mp ha), z.gro, z.new, z.sub, z.frm⟩
end
section
variable {α : Type} {f : α → Cel} {xs ys : List α} {qs : List Addr} {X : Cx} {B : Base} {S S1 S2 S3 : Stt} {x y z : Slot} {a b e o tg : Expr} {es : List Expr} {pos apos : Pos} {D : FE} {rest : List Stmt} {T : List Slot} {σ : L2.St} {tv : List V} {G H : Hp} {p q : Addr} {v : V} {n : Nat} {i : Int}
def mlAs (f : α → Cel) (qs : List Addr) (xs : List α) : List Slot := List.zipWith (fun q x => Slot.ownA q (f x)) qs xs
/-- what there is not -/
def badC : Cel := .lst [.say fun _ _ => False]
theorem bad_out {k : Nat} (hk : S.cs[k]? = some (p, badC)) (h : Sta B S T σ tv H) : False := by
  obtain ⟨G, as, bs, z⟩ := h
  obtain ⟨l, o, m, r, rfl, hp, hc, reb⟩ := z.cel.at k hk (by nofun)
  cases hc with
  | lst hs =>
    cases hs with
    | cons c _ =>
      cases c with
      | say _ c => exact c
/-- a list of things of our own: where each stands is told by qs -/
def mlA (f : α → Cel) (qs : List Addr) (xs : List α) : Cel := if qs.length = xs.length then .lst (mlAs f qs xs) else badC
/-- .. the n-th, at q, being out -/
def mlAH (f : α → Cel) (qs : List Addr) (xs : List α) (n : Nat) (q : Addr) : Cel := if qs.length = xs.length then .lst ((mlAs f qs xs).set n (.v (.ref q))) else badC
theorem mlA_ok (h : qs.length = xs.length) : mlA f qs xs = .lst (mlAs f qs xs) := if_pos h
theorem mlA_no (h : ¬ qs.length = xs.length) : mlA f qs xs = badC := if_neg h
theorem ss_expose : ∀ {xs : List α} {vs : List V} {as : List Addr}, SsI G H (xs.map fun x => Slot.own (f x)) vs as → ∃ qs : List Addr, qs.length = xs.length ∧ SsI G H (mlAs f qs xs) vs as
  | [], _, _, h => by cases h; exact ⟨[], rfl, .nil⟩
  | x :: xs, _, _, h => by
    cases h with
    | cons h1 h2 =>
      obtain ⟨qs, hl, h3⟩ := ss_expose h2
      cases h1 with
      | @own _ q o m hq hc => exact ⟨q :: qs, by rw [List.length_cons, List.length_cons, hl], .cons (.ownA hq hc) h3⟩
theorem ss_hide : ∀ {xs : List α} {qs : List Addr} {vs : List V} {as : List Addr}, qs.length = xs.length → SsI G H (mlAs f qs xs) vs as → SsI G H (xs.map fun x => Slot.own (f x)) vs as ∧ vs = qs.map V.ref
  | [], [], _, _, _, h => by cases h; exact ⟨.nil, rfl⟩
  | [], _ :: _, _, _, e, _ => by cases e
  | _ :: _, [], _, _, e, _ => by cases e
  | x :: xs, q :: qs, _, _, e, h => by
    cases (show SsI G H (Slot.ownA q (f x) :: mlAs f qs xs) _ _ from h) with
    | cons h1 h2 =>
      obtain ⟨h3, h4⟩ := ss_hide (Nat.succ.inj e) h2
      cases h1 with
      | ownA hq hc => exact ⟨.cons (.own hq hc) h3, by rw [h4]; rfl⟩
theorem Sta.exposeM (k : Nat) (hk : S.cs[k]? = some (p, mlC f xs)) (h : Sta B S T σ tv H) : ∃ qs : List Addr, qs.length = xs.length ∧ Sta B ⟨S.sl, S.cs.set k (p, mlA f qs xs)⟩ T σ tv H := by
  obtain ⟨G, as, bs, z⟩ := h
  obtain ⟨l, o, m, r, rfl, hp, hc, reb⟩ := z.cel.at k hk (by nofun)
  cases hc with
  | lst hs =>
    obtain ⟨qs, hl, h3⟩ := ss_expose hs
    refine ⟨qs, hl, ?_⟩
    rw [mlA_ok hl]
    exact ⟨G, as, _, z.tmp, (reb (Ex.refl G) fun _ _ => rfl).1 hp (.lst h3), z.slo, z.nod, z.fre, z.gro, z.new, z.sub, z.frm⟩
theorem le_hideM (k : Nat) (hk : S.cs[k]? = some (p, mlA f qs xs)) : Le B S ⟨S.sl, S.cs.set k (p, mlC f xs)⟩ := fun T tv σ H h => by
  by_cases hl : qs.length = xs.length
  · rw [mlA_ok hl] at hk
    obtain ⟨G, as, bs, z⟩ := h
    obtain ⟨l, o, m, r, rfl, hp, hc, reb⟩ := z.cel.at k hk (by nofun)
    cases hc with
    | lst hs =>
      exact ⟨G, as, _, z.tmp, (reb (Ex.refl G) fun _ _ => rfl).1 hp (.lst (ss_hide hl hs).1), z.slo, z.nod, z.fre, z.gro, z.new, z.sub, z.frm⟩
  · rw [mlA_no hl] at hk
    exact (bad_out hk h).elim
theorem js_exposeM (k : Nat) (hk : S.cs[k]? = some (p, mlC f xs)) (h : ∀ qs : List Addr, qs.length = xs.length → JS X B ⟨S.sl, S.cs.set k (p, mlA f qs xs)⟩ rest D) : JS X B S rest D := fun T tv σ H hs =>
  let ⟨qs, hl, h1⟩ := hs.exposeM k hk
  h qs hl _ _ _ _ h1
theorem ss_refsV : ∀ qs : List Addr, SsI G H (qs.map fun q => Slot.v (.ref q)) (qs.map V.ref) []
  | [] => .nil
  | _ :: qs => .cons (as := []) .v (ss_refsV qs)
theorem lv_mlA (k : Nat) (hk : S.cs[k]? = some (p, mlA f qs xs)) : Lv X.K B S (.v (.ref p)) (qs.map fun q => Slot.v (.ref q)) := fun z => by
  by_cases hl : qs.length = xs.length
  · rw [mlA_ok hl] at hk
    obtain ⟨a1, a2, _, h, z'⟩ := z.pop
    cases h with
    | v =>
      obtain ⟨l, o, m, r, _, hp, hc, _⟩ := z.cel.at k hk (by nofun)
      cases hc with
      | lst hs =>
        obtain ⟨_, rfl⟩ := ss_hide hl hs
        exact ⟨p, _, rfl, .inl (.of hp), ss_refsV qs⟩
  · rw [mlA_no hl] at hk
    exact (bad_out hk ⟨_, _, _, z⟩).elim
/-- the things and their places -/
def idxs (qs : List Addr) : List (Addr × Nat) := qs.zipIdx
theorem idxs_at {a : Addr × Nat} (h : a ∈ idxs qs) : qs[a.2]? = some a.1 := by
  obtain ⟨x, i⟩ := a
  exact List.mk_mem_zipIdx_iff_getElem?.mp h
theorem forM_vmap {ι β γ : Type} {g : ι → γ → Option ι} {h : β → γ} : ∀ {l : List β} {s : ι}, forM (fun s x => g s (h x)) l s = forM g (l.map h) s
  | [], _ => rfl
  | x :: l, s => by
    show (g s (h x)).bind _ = (g s (h x)).bind _
    cases g s (h x) with
    | none => rfl
    | some s' => exact forM_vmap (l := l)
theorem mlAH_nth {x : α} (hl : qs.length = xs.length) (hq : qs[n]? = some q) (hx : xs[n]? = some x) : (mlAs f qs xs)[n]? = some (.ownA q (f x)) := by
  unfold mlAs
  rw [List.getElem?_zipWith, hq, hx]
theorem le_openA (k n : Nat) {x : α} (hq : qs[n]? = some q) (hx : xs[n]? = some x) (hk : S.cs[k]? = some (p, mlA f qs xs)) : Le B S ⟨S.sl, S.cs.set k (p, mlAH f qs xs n q) ++ [(q, f x)]⟩ := fun T tv σ H h => by
  by_cases hl : qs.length = xs.length
  · rw [mlA_ok hl] at hk
    have := h.openAt k n hk (show (mlAs f qs xs)[n]? = _ from mlAH_nth hl hq hx)
    have e : (Cel.lst (mlAs f qs xs)).sub n (.v (.ref q)) = mlAH f qs xs n q := (if_pos hl).symm
    rw [e] at this
    exact this
  · rw [mlA_no hl] at hk
    exact (bad_out hk h).elim
theorem set_mlAs {x : α} (hq : qs[n]? = some q) : ((mlAs f qs xs).set n (.v (.ref q))).set n (.ownA q (f x)) = mlAs f qs (xs.set n x) := by
  rw [List.set_set]
  unfold mlAs
  apply List.ext_getElem?
  intro m
  rw [List.getElem?_set, List.getElem?_zipWith, List.getElem?_zipWith, List.getElem?_set]
  by_cases c : n = m
  · subst c
    rw [if_pos rfl, if_pos rfl, hq, List.length_zipWith]
    have h1 := (List.getElem?_eq_some_iff.mp hq).1
    by_cases h2 : n < xs.length
    · rw [if_pos (by omega), if_pos h2]
    · rw [if_neg (by omega), if_neg h2]
  · rw [if_neg c, if_neg c]
theorem le_closeA (k k2 n mm : Nat) {x : α} (hq : qs[n]? = some q) (hk : S.cs[k]? = some (p, mlAH f qs xs n q)) (hk2 : S.cs[k2]? = some (q, f x)) (hne : k ≠ k2) (ng : ∀ x, f x ≠ .gone) : Le B S ⟨S.sl, ((S.cs.set k (p, mlA f qs (xs.set n x))).set k2 (q, .gone)).take mm⟩ := fun T tv σ H h => by
  by_cases hl : qs.length = xs.length
  · have e : mlAH f qs xs n q = .lst ((mlAs f qs xs).set n (.v (.ref q))) := if_pos hl
    rw [e] at hk
    have hlt : n < (mlAs f qs xs).length := by
      unfold mlAs
      rw [List.length_zipWith]
      have := (List.getElem?_eq_some_iff.mp hq).1
      omega
    have h1 := h.foldAtA k k2 n hk (show ((mlAs f qs xs).set n (Slot.v (.ref q)))[n]? = _ from List.getElem?_set_self hlt) hk2 hne (by nofun) (ng x)
    have e2 : (Cel.lst ((mlAs f qs xs).set n (Slot.v (.ref q)))).sub n (.ownA q (f x)) = mlA f qs (xs.set n x) := by
      rw [mlA_ok (by rw [List.length_set]; exact hl)]
      exact congrArg Cel.lst (set_mlAs hq)
    rw [e2] at h1
    exact h1.take mm
  · have e : mlAH f qs xs n q = badC := if_neg hl
    rw [e] at hk
    exact (bad_out hk h).elim
end
end J
namespace J
open PySem PySem.Spec PyProof.Rows L2
open PySem.W (Datum)
section
variable {α : Type} {f : α → Cel} {xs ys : List α} {qs : List Addr} {B : Base} {S : Stt} {p q : Addr} {n : Nat}
theorem gx_natI {x : α} (h : gx xs ((n : Nat) : Int) = some x) : xs[n]? = some x := by
  unfold gx at h
  rw [if_pos (by omega), Int.toNat_natCast] at h
  exact h
theorem le_openI (k n : Nat) {x : α} (hq : qs[n]? = some q) (hx : gx xs ((n : Nat) : Int) = some x) (hk : S.cs[k]? = some (p, mlA f qs xs)) : Le B S ⟨S.sl, S.cs.set k (p, mlAH f qs xs n q) ++ [(q, f x)]⟩ := le_openA k n hq (gx_natI hx) hk
end
end J
namespace J
end J
namespace J
open PySem PySem.Spec PyProof.Rows L2
open PySem.W (Datum)
/-! ### tuples that hold own things -/
section
/-! two such, opened; gone through by turns -/
end
end J
namespace J
open PySem PySem.Spec PyProof.Rows L2
open PySem.W (Datum)
/-! ### an own list of own lists, lent for an expression that tells a number, a truth value or a text -/
abbrev intsC (xs : List Int) : Cel := .lst (xs.map Slot.val)
theorem ints_flat {G G2 H : Hp} (xs : List Int) : ∀ (vs : List V) (as : List Addr), SsI G H (xs.map Slot.val) vs as → as = [] ∧ DqAll G2 vs (xs.map Datum.toD) := by
  induction xs with
  | nil =>
    intro vs as h
    cases h
    exact ⟨rfl, .nil⟩
  | cons x xs ih =>
    intro vs as h
    cases h with
    | cons h1 h2 =>
      obtain ⟨rfl, k⟩ := ih _ _ h2
      cases h1 with
      | val g =>
        cases (show Dq G _ (PyData.int x) from g) with
        | int => exact ⟨rfl, .cons (.int x) k⟩
theorem tree_told {G H G2 : Hp} (xss : List (List Int)) : ∀ (vs : List V) (m : List Addr), SsI G H (xss.map fun x => Slot.own (intsC x)) vs m → (∀ a ∈ m, G2 a = H a) → DqAll G2 vs (xss.map Datum.toD) := by
  induction xss with
  | nil =>
    intro vs m h _
    cases h
    exact .nil
  | cons x xss ih =>
    intro vs m h hm
    cases h with
    | cons h1 h2 =>
      have k := ih _ _ h2 fun a ha => hm a (List.mem_append_right _ ha)
      cases h1 with
      | @own _ p o as hp hc =>
        cases hc with
        | lst hs =>
          have e := hm p (List.mem_append_left _ List.mem_cons_self)
          exact .cons (.lst (e.trans hp) (ints_flat x _ _ hs).2) k
/-- data that holds no reference -/
def Flat (d : PyData) : Prop := ∀ {G G2 : Hp} {v : V}, Dq G v d → Dq G2 v d
theorem flat_int (i : Int) : Flat (.int i) := fun h => by cases h; exact .int i
theorem SgI.put {G : Hp} {sl : List Slot} {σ : L2.St} (h : SgI G sl σ) {i : Nat} {s : Slot} {o : Option V} (ho : σ[i]? = some o) (hs : SlOk G s o) : SgI G (sl.set i s) σ := by
  refine ⟨by rw [List.length_set]; exact h.1, fun j s' hj => ?_⟩
  by_cases e : i = j
  · subst e
    have hl := (List.getElem?_eq_some_iff.mp hj).1
    rw [List.length_set] at hl
    rw [List.getElem?_set_self hl] at hj
    cases hj
    exact ⟨o, ho, hs⟩
  · rw [List.getElem?_set_ne e] at hj
    exact h.2 j s' hj
section
variable {X : Cx} {B : Base} {S : Stt} {e : Expr} {p : Addr} {xss : List (List Int)}
/-- the told state, and the way back -/
theorem lend_core {T : List Slot} {σ : L2.St} {tv : List V} {H : Hp} (k i : Nat) (hk : S.cs[k]? = some (p, mlC intsC xss)) (hi : S.sl[i]? = some (.v (.ref p))) (hs : Sta B S T σ tv H) :
    ∃ B' : Base, Sta B' ⟨S.sl.set i (.val xss), []⟩ [] σ [] H ∧ ∀ {H' : Hp} {T' : List Slot} {tv' : List V}, Sta B' ⟨S.sl.set i (.val xss), []⟩ T' σ tv' H' → Sta B S T σ tv H' := by
  obtain ⟨G, as, bs, z⟩ := hs
  obtain ⟨l, o, m, r, rfl, hp, hc, _⟩ := z.cel.at k hk (by nofun)
  unfold mlC at hc
  cases hc with
  | @lst _ vs _ hss =>
    have inb : ∀ a ∈ p :: m, a ∈ as ++ (l ++ p :: m ++ r) := fun a ha => List.mem_append_right _ (List.mem_append_left _ (List.mem_append_right _ ha))
    let G' : Hp := fun a => if a ∈ p :: m then H a else G a
    let F' : Hp := fun a => if a ∈ as ++ (l ++ p :: m ++ r) then H a else B.F a
    have eG : Ex G G' := fun a u ha => by
      show (if a ∈ p :: m then H a else G a) = some u
      rw [if_neg fun hm => by rw [(z.fre a (inb a hm)).1] at ha; cases ha]
      exact ha
    have at_ : ∀ a ∈ p :: m, G' a = H a := fun a ha => if_pos ha
    have told : Dq G' (.ref p) (Datum.toD xss) := .lst ((at_ p List.mem_cons_self).trans hp) (tree_told xss _ _ hss fun a ha => at_ a (List.mem_cons_of_mem _ ha))
    obtain ⟨o', h1, h2⟩ := z.slo.2 i _ hi
    have h2 : o' = some (.ref p) := h2
    subst h2
    have subG : Ex G' H := fun a u ha => by
      have ha : (if a ∈ p :: m then H a else G a) = some u := ha
      split at ha
      · exact ha
      · exact z.sub a u ha
    have frmF : Ex F' H := fun a u ha => by
      have ha : (if a ∈ as ++ (l ++ p :: m ++ r) then H a else B.F a) = some u := ha
      split at ha
      · exact ha
      · exact z.frm a u ha
    refine ⟨⟨G', F'⟩, ⟨G', [], [], .nil, .nil, SgI.put (z.slo.mono eG) h1 ⟨_, rfl, told⟩, List.nodup_nil, (fun a ha => nomatch ha), Ex.refl _, (fun a u ha => .inl ha), subG, frmF⟩, fun {H' T' tv'} g => ?_⟩
    obtain ⟨G2, as2, bs2, y⟩ := g
    have same : ∀ a ∈ as ++ (l ++ p :: m ++ r), H' a = H a := fun a ha => by
      have ex : ∃ u, H a = some u := by
        rcases List.mem_append.mp ha with h | h
        · exact z.tmp.def a h
        · exact z.cel.def a h
      obtain ⟨u, hu⟩ := ex
      have : F' a = some u := by
        show (if a ∈ as ++ (l ++ p :: m ++ r) then H a else B.F a) = some u
        rw [if_pos ha]
        exact hu
      rw [hu]
      exact y.frm a u this
    refine ⟨G, as, l ++ p :: m ++ r, z.tmp.mono (Ex.refl G) fun a ha => same a (List.mem_append_left _ ha), z.cel.mono (Ex.refl G) fun a ha => same a (List.mem_append_right _ ha), z.slo, z.nod, z.fre, z.gro, z.new, fun a u ha => y.sub a u (y.gro a u (eG a u ha)), fun a u ha => ?_⟩
    refine y.frm a u ?_
    show (if a ∈ as ++ (l ++ p :: m ++ r) then H a else B.F a) = some u
    rw [if_neg fun hm => by rw [(z.fre a hm).2] at ha; cases ha]
    exact ha
theorem je_lend {β : Type} [DecidableEq β] [Datum β] {t : β} (k i : Nat) (hk : S.cs[k]? = some (p, mlC intsC xss)) (hi : S.sl[i]? = some (.v (.ref p))) (hf : Flat (Datum.toD t)) (h : ∀ B', JE X B' ⟨S.sl.set i (.val xss), []⟩ e ⟨S.sl.set i (.val xss), []⟩ (.val t)) : JE X B S e S (.val t) := fun T tv σ H Q hs q => by
  obtain ⟨B', h1, back⟩ := lend_core k i hk hi hs
  refine h B' [] [] σ H Q h1 fun v H' g => q v H' ?_
  have hb := back g
  obtain ⟨G2, as2, bs2, y⟩ := g
  obtain ⟨a1, a2, _, g1, _⟩ := y.pop
  cases g1 with
  | val g1 =>
    obtain ⟨G, as, bs, z⟩ := hb
    exact ⟨G, [] ++ as, bs, .cons (.val (hf g1)) z.tmp, z.cel, z.slo, z.nod, z.fre, z.gro, z.new, z.sub, z.frm⟩
theorem jt_lend {t : Bool} (k i : Nat) (hk : S.cs[k]? = some (p, mlC intsC xss)) (hi : S.sl[i]? = some (.v (.ref p))) (h : ∀ B', JT X B' ⟨S.sl.set i (.val xss), []⟩ e ⟨S.sl.set i (.val xss), []⟩ t) : JT X B S e S t := fun T tv σ H Q hs q => by
  obtain ⟨B', h1, back⟩ := lend_core k i hk hi hs
  exact h B' [] [] σ H Q h1 fun H' g => q H' (back g)
end
end J
namespace J
open PySem PySem.Spec PyProof.Rows L2
open PySem.W (Datum)
/-! ### lent for an expression that hands back a new list of tuples -/
section
end
end J
namespace J
open PySem PySem.Spec PyProof.Rows L2
open PySem.W (Datum)
/-! ### an own list of own lists handed: what is told is nobody else's -/
theorem als_owns : ∀ xss : List (List Int), Als (xss.map fun x => Slot.own (intsC x))
  | [] => .nil
  | _ :: xss => .cons (fun G G' H v as h => by
      cases h with
      | own hp hc => exact .own hp (alc_ints _ _ _ _ _ hc)) (als_owns xss)
theorem alc_ml {xss : List (List Int)} : AlC (mlC intsC xss) := fun G G' H o as h => by
  unfold mlC at h ⊢
  cases h with
  | lst h => exact .lst ((als_owns xss).ss h)
/-! ### enumerate(reversed(..)) of things at known addresses -/
def erP (k : Int) (q : Addr) : Hp → V → Prop := fun G u => ∃ a : Addr, u = .ref a ∧ G a = some (.tup [.int k, .ref q])
theorem erP_mono {k : Int} {q : Addr} : Mono (erP k q) := fun G G' u e ⟨a, h1, h2⟩ => ⟨a, h1, e _ _ h2⟩
def erS (t : Int × Addr) : Slot := .say (erP t.1 t.2)
theorem push_er {B : Base} {S : Stt} {T : List Slot} {σ : L2.St} {tv : List V} {H G : Hp} {as bs : List Addr} (z : St0 B S T σ tv H G as bs) {p q : Addr} (hp : H p = none) {k : Int} : Sta B S (erS (k, q) :: T) σ (.ref p :: tv) (upd H p (.tup [.int k, .ref q])) :=
  z.newG hp (.say erP_mono ⟨p, rfl, upd_same⟩)
section
variable {X : Cx} {B : Base} {S S1 S2 S3 : Stt} {x y z : Slot} {a b e o : Expr} {es : List Expr} {pos apos : Pos} {tg : Expr}
theorem ji_erR {qs : List Addr} {ok : Stt → Prop} {p p2 pos2 tpos : Pos} {elts : List Expr} {kk : Nat} (hm : X.mg "enumerate" = none) (hm2 : X.mg "reversed" = none) (ha : JE X B S e S1 x) (hl : Lv X.K B S1 x (qs.map fun q => Slot.v (.ref q))) (hok : ∀ S, ok S → Lv X.K B S x (qs.map fun q => Slot.v (.ref q))) (hg : Gl X "enumerate" := by rfl) (hg2 : Gl X "reversed" := by rfl)
    (hs : starEach [Expr.Call (.Name "reversed" p2) [e] [] pos2] X.env = (false, eval (.Call (.Name "reversed" p2) [e] [] pos2) X.env) :: starEach [] X.env := by rfl) (hs2 : starEach [e] X.env = [(false, eval e X.env)] := by rfl) (hst : starEach [e] X.env = (false, eval e X.env) :: starEach [] X.env := by rfl) :
    JI X B S (.Tuple elts kk tpos) (.Call (.Name "enumerate" p) [.Call (.Name "reversed" p2) [e] [] pos2] [] pos) S1 [x] ((enu 0 qs.reverse).map erS) ok := fun T tv σ H R h q =>
  pi1 (pi_er hg hm hg2 hm2 pa0 hs hs2) (ja_cons ha ja_nil hst _ _ _ _ _ h fun vs H1 hl' h1 => by
    obtain ⟨v, rfl⟩ : ∃ v, vs = [v] := match vs, hl' with | [v], _ => ⟨v, rfl⟩
    obtain ⟨G, as, bs, z⟩ := id h1
    obtain ⟨pa, va, rfl, hr, hss⟩ := hl z
    have hlen : va.length = qs.length := by have := hss.len; rw [List.length_map] at this; exact this.symm
    refine ⟨pa, va, rfl, hr, q (Iter X.K pa va.length) [.ref pa] H1 rfl h1 ⟨fun S T σ tv H i s hS hi h => ?_, fun S T σ tv H hS h => ?_⟩⟩
    · obtain ⟨G, as, bs, z⟩ := id h
      obtain ⟨pa', va', e1, hr, hss⟩ := hok S hS z
      cases e1
      rw [List.getElem?_map] at hi
      cases qe : (enu 0 qs.reverse)[i]? with
      | none => rw [qe] at hi; cases hi
      | some pr =>
        rw [qe] at hi
        cases hi
        obtain ⟨g1, g2⟩ := enu_get 0 _ i qe
        have hi2 : i < qs.length := by have := (List.getElem?_eq_some_iff.mp g2).1; rw [List.length_reverse] at this; exact this
        rw [List.getElem?_reverse (by omega)] at g2
        obtain ⟨u, hu, su⟩ := hss.get (qs.length - 1 - i) (show (qs.map fun q => Slot.v (.ref q))[qs.length - 1 - i]? = some (Slot.v (.ref pr.2)) by rw [List.getElem?_map, g2] <;> rfl)
        rw [← hlen] at hu
        refine ⟨⟨by omega, va', u, hr, hu⟩, fun v H' hy => ?_⟩
        obtain ⟨t, x', rfl, hT, rfl, hy⟩ := hy
        have e := hy va' hr
        rw [hu] at e
        cases e
        cases su
        have ei : pr = (((i : Nat) : Int), pr.2) := Prod.ext (by rw [g1]; simp) rfl
        rw [ei]
        exact push_er z hT
    · show va.length ≤ _
      rw [List.length_map, enu_len, List.length_reverse]
      omega)
theorem jg_er {e1 e2 : Expr} {kk : Nat} {q : Addr} {k : Int} {ws : List Nat} (h : JGs X B S [e1, e2] [.val k, .v (.ref q)] S1 ws) (hc : X.calm = true := by rfl) (hn : (assignEach [e1, e2] X.env).length = 2 := by rfl) (hst : (assignEach [e1, e2] X.env).findIdx? (·.1) = none := by rfl) : JG X B S (.Tuple [e1, e2] kk pos) (erS (k, q)) S1 ws := fun T tv σ v H Q hs qq =>
  pg1 (pg_tup hc pgs0 rfl hst) (by
    obtain ⟨G, as, bs, z⟩ := hs
    obtain ⟨a1, a2, rfl, g, z'⟩ := z.pop
    cases g with
    | say _ g =>
      obtain ⟨p, rfl, hp⟩ := g
      have hss : SsI G H [.val k, .v (.ref q)] [.int k, .ref q] [] := .cons (as := []) (.val (.int k)) (.cons (as := []) .v .nil)
      refine ⟨p, _, rfl, .of (z.sub _ _ hp), by rw [hn]; rfl, ?_⟩
      exact h _ _ _ _ _ _ rfl ⟨G, [] ++ a2, bs, hss.app z'.tmp, z'.cel, z'.slo, z'.nod, z'.fre, z'.gro, z'.new, z'.sub, z'.frm⟩ qq)
end
/-! the turns of such a loop, by number, thing and address -/
def erI {α : Type} (xs : List α) (qs : List Addr) : List ((Int × α) × (Addr × Nat)) := (enu 0 xs.reverse).zip (idxs qs).reverse
theorem enu_map {α β : Type} (f : α → β) : ∀ (i : Int) (xs : List α), enu i (xs.map f) = (enu i xs).map fun t => (t.1, f t.2)
  | _, [] => rfl
  | i, x :: xs => congrArg ((i, f x) :: ·) (enu_map f (i + 1) xs)
theorem zip_enu {α β : Type} : ∀ (i : Int) (xs : List α) (ys : List β), xs.length = ys.length → ((enu i xs).zip ys).map (fun a => (a.1.1, a.2)) = enu i ys
  | _, [], [], _ => rfl
  | i, x :: xs, y :: ys, h => congrArg ((i, y) :: ·) (zip_enu (i + 1) xs ys (Nat.succ.inj h))
  | _, [], _ :: _, h => by cases h
  | _, _ :: _, [], h => by cases h
theorem idxs_fst {qs : List Addr} : (idxs qs).map Prod.fst = qs := List.zipIdx_map_fst ..
theorem idxs_length {qs : List Addr} : (idxs qs).length = qs.length := List.length_zipIdx ..
theorem erI_slots {α : Type} {xs : List α} {qs : List Addr} (hl : qs.length = xs.length) : (erI xs qs).map (fun a => erS (a.1.1, a.2.1)) = (enu 0 qs.reverse).map erS := by
  have e : (enu 0 qs.reverse) = ((erI xs qs).map fun a => (a.1.1, a.2)).map fun t => (t.1, t.2.1) := by
    unfold erI
    rw [zip_enu 0 xs.reverse (idxs qs).reverse (by rw [List.length_reverse, List.length_reverse, idxs_length, hl]), ← enu_map, List.map_reverse, idxs_fst]
  rw [e, List.map_map, List.map_map]
  rfl
theorem erI_fst {α : Type} {xs : List α} {qs : List Addr} (hl : qs.length = xs.length) : (erI xs qs).map Prod.fst = enu 0 xs.reverse := by
  unfold erI
  exact List.map_fst_zip (by rw [enu_len, List.length_reverse, List.length_reverse, idxs_length, hl]; exact Nat.le_refl _)
theorem forM_er {α ι : Type} {g : ι → Int × α → Option ι} {xs : List α} {qs : List Addr} {s r : ι} (hl : qs.length = xs.length) (h : forM g (enu 0 xs.reverse) s = some r) : forM (fun s a => g s a.1) (erI xs qs) s = some r := by
  rw [forM_vmap (h := fun a : (Int × α) × (Addr × Nat) => a.1), erI_fst hl]
  exact h
theorem erI_at {α : Type} {xs : List α} {qs : List Addr} {a : (Int × α) × (Addr × Nat)} (hl : qs.length = xs.length) (h : a ∈ erI xs qs) : qs[a.2.2]? = some a.2.1 ∧ gx xs ((a.2.2 : Nat) : Int) = some a.1.2 := by
  obtain ⟨i, hi⟩ := List.mem_iff_getElem?.mp h
  unfold erI at hi
  rw [List.getElem?_zip_eq_some] at hi
  obtain ⟨h1, h2⟩ := hi
  obtain ⟨_, g2⟩ := enu_get 0 _ i h1
  have hi1 : i < xs.length := by have := (List.getElem?_eq_some_iff.mp g2).1; rw [List.length_reverse] at this; exact this
  rw [List.getElem?_reverse hi1] at g2
  rw [List.getElem?_reverse (by rw [idxs_length, hl]; exact hi1), idxs_length, hl] at h2
  have hm : a.2 ∈ idxs qs := List.mem_iff_getElem?.mpr ⟨_, h2⟩
  have en : a.2.2 = xs.length - 1 - i := by
    unfold idxs at h2
    rw [List.getElem?_zipIdx] at h2
    cases e : qs[xs.length - 1 - i]? with
    | none => rw [e] at h2; cases h2
    | some q =>
      rw [e] at h2
      have := Option.some.inj h2
      rw [← this]
      show 0 + _ = _
      omega
  refine ⟨idxs_at hm, ?_⟩
  unfold gx
  rw [if_pos (by omega), Int.toNat_natCast, en]
  exact g2
section
variable {α : Type} {f : α → Cel} {xs : List α} {qs : List Addr} {B : Base} {S : Stt} {p q : Addr}
theorem set_self {xs : List α} {n : Nat} {x : α} (h : xs[n]? = some x) : xs.set n x = xs := by
  apply List.ext_getElem?
  intro i
  rw [List.getElem?_set]
  by_cases c : n = i
  · subst c
    rw [if_pos rfl, h]
    have := (List.getElem?_eq_some_iff.mp h).1
    rw [if_pos this]
  · rw [if_neg c]
/-- the n-th put back as it was -/
theorem le_closeS (k k2 n mm : Nat) {x : α} (hx : gx xs ((n : Nat) : Int) = some x) (hq : qs[n]? = some q) (hk : S.cs[k]? = some (p, mlAH f qs xs n q)) (hk2 : S.cs[k2]? = some (q, f x)) (hne : k ≠ k2) (ng : ∀ x, f x ≠ .gone) : Le B S ⟨S.sl, ((S.cs.set k (p, mlA f qs xs)).set k2 (q, .gone)).take mm⟩ := by
  have h := le_closeA (B := B) k k2 n mm hq hk hk2 hne ng
  rw [set_self (gx_natI hx)] at h
  exact h
end
section
variable {X : Cx} {B : Base} {S S1 : Stt} {e : Expr} {pos : Pos}
theorem ji_erA {α : Type} {xs : List α} {qs : List Addr} {p p2 pos2 tpos : Pos} {elts : List Expr} {kk : Nat} (hm : X.mg "enumerate" = none) (hm2 : X.mg "reversed" = none) (hl : qs.length = xs.length) (ha : JE X B S e S1 (.own (.lst (qs.map fun q => Slot.v (.ref q))))) (hg : Gl X "enumerate" := by rfl) (hg2 : Gl X "reversed" := by rfl)
    (hs : starEach [Expr.Call (.Name "reversed" p2) [e] [] pos2] X.env = (false, eval (.Call (.Name "reversed" p2) [e] [] pos2) X.env) :: starEach [] X.env := by rfl) (hs2 : starEach [e] X.env = [(false, eval e X.env)] := by rfl) (hst : starEach [e] X.env = (false, eval e X.env) :: starEach [] X.env := by rfl) :
    JI X B S (.Tuple elts kk tpos) (.Call (.Name "enumerate" p) [.Call (.Name "reversed" p2) [e] [] pos2] [] pos) S1 [.own (.lst (qs.map fun q => Slot.v (.ref q)))] ((erI xs qs).map fun a => erS (a.1.1, a.2.1)) (fun _ => True) := by
  have pl : ∀ s ∈ qs.map (fun q => Slot.v (.ref q)), s.plain = true := fun s hs => by
    obtain ⟨q, _, rfl⟩ := List.mem_map.mp hs
    rfl
  rw [erI_slots hl]
  exact ji_erR hm hm2 ha (lv_own pl) (fun _ _ => lv_own pl) hg hg2 hs hs2 hst
end
end J
namespace Gk53
open PySem PySem.Spec PyProof.Rows L2
/-! ### the mirrors -/
def m_law_bag_b0 (s3 : ((List Int) × Int)) (x5 : Int) : Option ((List Int) × Int) :=
  (some ((((s3.2 * 1000003) + x5) % 2305843009213693951) : Int)).bind fun x6 => ((if (decide (1000000000000000000 ≤ (if x5 < 0 then -x5 else x5))) = true then ((J.psh s3.1 (if x5 < 0 then -x5 else x5)).bind fun x9 => some x9) else ( some s3.1) : Option (List Int))).bind fun s7 => some (s7, x6)
def m_law_bag (a0 : List Int) : Option ((List Int) × (Int × (Int × Int))) :=
  (J.forM (m_law_bag_b0) a0 (([] : List Int), 11)).bind fun s10 => some (s10.1, (0, (0, s10.2)))
def m_law_draw (a1 : Int) (a0_0 : (List Int)) (a0_1 : Int) (a0_2 : Int) (a0_3 : Int) : Option (Int × (Int × (Int × (List Int)))) :=
  ((if ((decide (a0_1 < a1)) && (decide (0 < ((a0_0).length : Int)))) = true then ((J.popG a0_0 0).bind fun x3 => some (x3.1, x3.2)) else ( some (a0_1, a0_0)) : Option (Int × (List Int)))).bind fun s1 => if (decide (a1 ≤ s1.1)) = true then ((J.modG s1.1 a1).bind fun x4 => (J.divG s1.1 a1).bind fun x5 => some (x4, (x5, (a0_2, s1.2)))) else ( (J.powG ((a0_2 + 1) + 29) 2).bind fun x6 => (J.mulG (a0_3 + (17 * (a0_2 + 1))) x6).bind fun x7 => (some ((x7 + (7919 * (a0_2 + 1))) : Int)).bind fun x8 => (J.powG (x8 % 2305843009213693951) 3).bind fun x9 => (J.modG ((x9 % (1000000000000000000 + 9)) / 64) a1).bind fun x10 => some (x10, (s1.1, ((a0_2 + 1), s1.2))))
def m_law_trace_b0 (a2 : Int) (a0_3 : Int) (x2 : Int) (s6 : (Int × (Int × ((List Int) × (List Int))))) (x8 : Int) : Option (Int × (Int × ((List Int) × (List Int)))) :=
  (m_law_draw 4 s6.2.2.1 s6.1 s6.2.1 a0_3).bind fun x9 => (m_law_draw a2 x9.2.2.2 x9.2.1 x9.2.2.1 a0_3).bind fun x10 => ((if ((decide (0 < ((s6.2.2.2).length : Int))) && (decide (x9.1 = 0))) = true then ((J.gx s6.2.2.2 (-1)).bind fun x13 => some x13) else ( some (x2 + x10.1)) : Option Int)).bind fun s11 => ((if ((decide (3 < ((s6.2.2.2).length : Int))) && (decide (x9.1 = 1))) = true then ((m_law_draw 4 x10.2.2.2 x10.2.1 x10.2.2.1 a0_3).bind fun x16 => (J.gx s6.2.2.2 ((((s6.2.2.2).length : Int) - 1) - x16.1)).bind fun x17 => some (x16.2.1, (x16.2.2.1, (x16.2.2.2, x17)))) else ( some (x10.2.1, (x10.2.2.1, (x10.2.2.2, s11)))) : Option (Int × (Int × ((List Int) × Int))))).bind fun s14 => (J.psh s6.2.2.2 s14.2.2.2).bind fun x18 => some (s14.1, (s14.2.1, (s14.2.2.1, x18)))
def m_law_trace (a1 : Int) (a2 : Int) (a0_0 : (List Int)) (a0_1 : Int) (a0_2 : Int) (a0_3 : Int) : Option ((List Int) × (Int × (Int × (List Int)))) :=
  (m_law_draw 3 a0_0 a0_1 a0_2 a0_3).bind fun x1 => (J.gx ([0, 0, (1000000000 - 60)] : List Int) x1.1).bind fun x2 => (m_law_draw (a1 + 1) x1.2.2.2 x1.2.1 x1.2.2.1 a0_3).bind fun x4 => (J.rngG x4.1).bind fun x5 => (J.forM (m_law_trace_b0 a2 a0_3 x2) x5 (x4.2.1, (x4.2.2.1, (x4.2.2.2, ([] : List Int))))).bind fun s19 => some (s19.2.2.2, (s19.1, (s19.2.1, s19.2.2.1)))
def m_law_traces_c0 (a2 : Int) (a0_3 : Int) (s3 : (Int × (Int × (List Int)))) (x5 : Int) : Option (Option (List Int) × (Int × (Int × (List Int)))) :=
  (m_law_draw 6 s3.2.2 s3.1 s3.2.1 a0_3).bind fun x6 => (m_law_trace a2 (1 + x6.1) x6.2.2.2 x6.2.1 x6.2.2.1 a0_3).bind fun x7 => some (some x7.1, (x7.2.1, (x7.2.2.1, x7.2.2.2)))
def m_law_traces (a1 : Int) (a2 : Int) (a0_0 : (List Int)) (a0_1 : Int) (a0_2 : Int) (a0_3 : Int) : Option ((List (List Int)) × (Int × (Int × (List Int)))) :=
  (m_law_draw a1 a0_0 a0_1 a0_2 a0_3).bind fun x1 => (J.rngG (1 + x1.1)).bind fun x2 => (J.lcM (m_law_traces_c0 a2 a0_3) x2 (x1.2.1, (x1.2.2.1, x1.2.2.2))).bind fun x8 => some (x8.1, (x8.2.1, (x8.2.2.1, x8.2.2.2)))
def m_law_last_b0 (a1 : Int) (s3 : (Int × (List Int))) (x5 : Int) : Option (Int × (List Int)) :=
  ((if (decide (x5 ∈ s3.2)) = true then ((J.remG s3.2 x5).bind fun x8 => some (s3.1, x8)) else ( some ((s3.1 + 1), (J.slc s3.2 (some (if ((((s3.2).length : Int) + 1) - a1) > 0 then ((((s3.2).length : Int) + 1) - a1) else 0)) none))) : Option (Int × (List Int)))).bind fun s6 => (J.catG s6.2 ([x5] : List Int)).bind fun x10 => some (s6.1, x10)
def m_law_last (a0 : (List Int)) (a1 : Int) : Option Int :=
  (J.forM (m_law_last_b0 a1) a0 (0, ([] : List Int))).bind fun s12 => some s12.1
def m_law_tables_c0 (x3 : (List Int)) (s5 : Unit) (x7 : Int) : Option (Option Int × Unit) :=
  (m_law_last x3 x7).bind fun x8 => some (some x8, ())
def m_law_tables_c1 (a1 : Int) (s1 : Unit) (x3 : (List Int)) : Option (Option (List Int) × Unit) :=
  (J.rngG2 1 (a1 + 1)).bind fun x4 => (J.lcM (m_law_tables_c0 x3) x4 ()).bind fun x9 => some (some x9.1, ())
def m_law_tables (a0 : (List (List Int))) (a1 : Int) : Option (List (List Int)) :=
  (J.lcM (m_law_tables_c1 a1) a0 ()).bind fun x10 => some x10.1
def m_law_lists_c0 (x9 : (List Int)) (s12 : Unit) (x14 : Int) : Option (Option (List Int) × Unit) :=
  (J.catG x9 ([x14] : List Int)).bind fun x15 => some (some x15, ())
def m_law_lists_b1 (a0 : Int) (a1 : Int) (x5 : Int) (s7 : (List (List Int))) (x9 : (List Int)) : Option (List (List Int)) :=
  (some (((a1 - (x9).sum) - ((a0 - x5) - 1)) : Int)).bind fun x10 => (J.rngG2 1 (x10 + 1)).bind fun x11 => (J.lcM (m_law_lists_c0 x9) x11 ()).bind fun x16 => (J.catG s7 x16.1).bind fun x17 => some x17
def m_law_lists_b2 (a0 : Int) (a1 : Int) (s3 : (List (List Int))) (x5 : Int) : Option (List (List Int)) :=
  (J.forM (m_law_lists_b1 a0 a1 x5) s3 ([] : List (List Int))).bind fun s18 => some s18
def m_law_lists (a0 : Int) (a1 : Int) : Option (List (List Int)) :=
  (some (([([] : List Int)] : List (List Int)) : (List (List Int)))).bind fun x1 => (J.rngG a0).bind fun x2 => (J.forM (m_law_lists_b2 a0 a1) x2 x1).bind fun s19 => some s19
def m_look (a1 : Int) (a0 : (List (List Int))) : Option Unit :=
   if (decide (((a0).length : Int) = 0)) = true then ( none) else (  if (decide (a1 < ((a0).length : Int))) = true then ( none) else (  some ()))
def m_depths_b0 (s3 : ((List Int) × (List (Option Int)))) (x5 : Int) : Option ((List Int) × (List (Option Int))) :=
  ((if (decide (x5 ∈ s3.1)) = true then ((J.idxG s3.1 x5).bind fun x8 => (J.psh s3.2 (some (((s3.1).length : Int) - x8))).bind fun x9 => (J.remG s3.1 x5).bind fun x10 => some (x10, x9)) else ((J.psh s3.2 none).bind fun x11 => some (s3.1, x11)) : Option ((List Int) × (List (Option Int))))).bind fun s6 => (J.psh s6.1 x5).bind fun x12 => some (x12, s6.2)
def m_depths (a0 : (List Int)) : Option (List (Option Int)) :=
  (J.forM (m_depths_b0) a0 (([] : List Int), ([] : List (Option Int)))).bind fun s13 => some s13.2
def m_curve_c0 (x6 : Int) (s7 : Unit) (x9 : (Option Int)) : Option (Option (Option Int) × Unit) :=
  (J.orM (x9).isNone ((x9).bind fun x10 => some (decide (x6 < x10)))).bind fun x11 => if x11 = true then  some (some x9, ()) else some (none, ())
def m_curve_b1 (x1 : (List (Option Int))) (s4 : (List Int)) (x6 : Int) : Option (List Int) :=
  (J.lcM (m_curve_c0 x6) x1 ()).bind fun x12 => (J.psh s4 ((x12.1).length : Int)).bind fun x13 => some x13
def m_curve (a0 : (List Int)) : Option (List Int) :=
  (m_depths a0).bind fun x1 => (J.rngG2 1 ((if (J.cntG x1 none) > 1 then (J.cntG x1 none) else 1) + 1)).bind fun x3 => (J.forM (m_curve_b1 x1) x3 ([] : List Int)).bind fun s14 => some s14
def m_faults_by_room_c0 (x1 : (List Int)) (s3 : Unit) (x5 : Int) : Option (Option Int × Unit) :=
  (J.gx x1 ((if ((x1).length : Int) < x5 then ((x1).length : Int) else x5) - 1)).bind fun x6 => some (some x6, ())
def m_faults_by_room (a1 : Int) (a0 : (List Int)) : Option (List Int) :=
  (m_curve a0).bind fun x1 => (J.rngG2 1 (a1 + 1)).bind fun x2 => (J.lcM (m_faults_by_room_c0 x1) x2 ()).bind fun x7 => some x7.1
def m_deal_c0 (s3 : Unit) (x5 : Int) : Option (Option (Int × (Int × (List Int))) × Unit) :=
   some (some (x5, (0, ([] : List Int))), ())
def m_deal_c1 (s11 : (List (Int × (Int × (List Int))))) (x19 : Int) (s21 : Unit) (x23 : Int) : Option (Option (Int × (Int × (List Int))) × Unit) :=
  (J.dget s11 (x19 - x23)).bind fun x24 => some (some (x23, x24), ())
def m_deal_c2 (x14 : (List Int)) (s26 : Unit) (x28 : (Int × (Int × (List Int)))) : Option (Option (Int × (List Int)) × Unit) :=
  (J.gx x14 (x28.1 - 1)).bind fun x29 => (J.catG ([x28.1] : List Int) x28.2.2).bind fun x30 => some (some ((x29 + x28.2.1), x30), ())
def m_deal_b3 (s11 : (List (Int × (Int × (List Int))))) (x13 : (Int × (List Int))) (x14 : (List Int)) (s17 : (List (Int × (Int × (List Int))))) (x19 : Int) : Option (List (Int × (Int × (List Int)))) :=
  (J.rngG2 1 ((x19 - x13.1) + 1)).bind fun x20 => (J.lcM (m_deal_c1 s11 x19) x20 ()).bind fun x25 => (J.lcM (m_deal_c2 x14) x25.1 ()).bind fun x31 => (J.minG x31.1).bind fun x32 => (J.dputG s17 x19 x32).bind fun x33 => some x33
def m_deal_b4 (a1 : Int) (s11 : (List (Int × (Int × (List Int))))) (x13 : (Int × (List Int))) : Option (List (Int × (Int × (List Int)))) :=
  (m_faults_by_room a1 x13.2).bind fun x14 => (J.rngG2 (x13.1 + 1) (a1 + 1)).bind fun x16 => (J.forM (m_deal_b3 s11 x13 x14) x16 ([] : List (Int × (Int × (List Int))))).bind fun s34 => some s34
def m_deal (a1 : Int) (a0 : (List (List Int))) : Option (List Int) :=
  (m_look a1 a0).bind fun x1 => (J.rngG (a1 + 1)).bind fun x2 => (J.lcM (m_deal_c0) x2 ()).bind fun x6 => (J.forM (m_deal_b4 a1) (J.enu 0 (a0).reverse) (J.dOf (x6.1 : List (Int × (Int × (List Int)))))).bind fun s35 => (J.dget s35 a1).bind fun x36 => some x36.2
def m_law_c0 (x11 : (List (List Int))) (x16 : (List Int)) (s18 : Unit) (x20 : Int) : Option (Option Int × Unit) :=
  (J.gx x11 x20).bind fun x21 => (J.gx x16 x20).bind fun x22 => (J.gx x21 (x22 - 1)).bind fun x23 => some (some x23, ())
def m_law_b1 (x8 : ((List (List Int)) × (Int × (Int × (List Int))))) (x11 : (List (List Int))) (s14 : (List (Int × (List Int)))) (x16 : (List Int)) : Option (List (Int × (List Int))) :=
  (J.rngG ((x8.1).length : Int)).bind fun x17 => (J.lcM (m_law_c0 x11 x16) x17 ()).bind fun x24 => (J.psh s14 ((x24.1).sum, x16)).bind fun x25 => some x25
def m_law_c2 (s27 : Unit) (x29 : (List Int)) : Option (Option (List Int) × Unit) :=
   some (some x29, ())
def m_law_b3 (x1 : ((List Int) × (Int × (Int × Int)))) (s5 : (Int × (Int × (List Int)))) (x7 : Int) : Option (J.Lp (Int × (Int × (List Int))) Bool) :=
  (m_law_traces 4 14 s5.2.2 s5.1 s5.2.1 x1.2.2.2).bind fun x8 => (m_law_draw 6 x8.2.2.2 x8.2.1 x8.2.2.1 x1.2.2.2).bind fun x9 => (some ((((x8.1).length : Int) + x9.1) : Int)).bind fun x10 => (m_law_tables x8.1 x10).bind fun x11 => (m_law_lists ((x8.1).length : Int) x10).bind fun x13 => (J.forM (m_law_b1 x8 x11) x13 ([] : List (Int × (List Int)))).bind fun s26 => (J.lcM (m_law_c2) x8.1 ()).bind fun x30 => (m_deal x10 x30.1).bind fun x32 => (J.orM (!true) ((J.minG s26).bind fun x34 => some ((decide (x32 ≠ x34.2)) || (decide (x30.1 ≠ x8.1))))).bind fun x35 => if x35 = true then ( some (.rt false)) else ( (J.psh x32 1).bind fun x36 => (m_deal x10 x30.1).bind fun x37 => (J.minG s26).bind fun x38 => if (decide (x37 ≠ x38.2)) = true then ( some (.rt false)) else (  some (.nx (x9.2.1, (x9.2.2.1, x9.2.2.2)))))
def m_law (a0 : List Int) : Option Bool :=
  (m_law_bag a0).bind fun x1 => (J.rngG (1 + (if ((a0).length : Int) < 2 then ((a0).length : Int) else 2))).bind fun x4 => (J.forL (m_law_b3 x1) x4 (x1.2.1, (x1.2.2.1, x1.1))).bind fun o40 => Sum.elim (fun s39 =>  some true) (fun r => some r) o40
/-! ### the text -/
def top (i : Nat) : Stmt := PySem.Challenge.pw_pagerooms_k53_rooms_dealt.main.body.getD i (.Pass ⟨0, 0, 0, 0⟩)
abbrev s__law_bag : Stmt := top 12
abbrev s__law_draw : Stmt := top 13
abbrev s__law_trace : Stmt := top 14
abbrev s__law_traces : Stmt := top 15
abbrev s__law_last : Stmt := top 16
abbrev s__law_tables : Stmt := top 17
abbrev s__law_lists : Stmt := top 18
abbrev s_look : Stmt := top 8
abbrev s_depths : Stmt := top 5
abbrev s_curve : Stmt := top 6
abbrev s_faults_by_room : Stmt := top 9
abbrev s_deal : Stmt := top 10
abbrev s_law : Stmt := top 19
abbrev FnP (K : PySem.W.Frag) (x : Str) (st : Stmt) (f : Addr) (fd : FuncData) : Prop := FunD K x x (defArgs st) (defBody st) (defScope st) [] [] f fd
theorem sc__law_bag : FnScope ["script", "cell", "fold", "great"] ["script"] (defScope s__law_bag) := ⟨rfl, rfl, rfl, by decide +kernel, rfl, by decide +kernel, by decide +kernel⟩
theorem sc__law_draw : FnScope ["bag", "many", "turn", "mixed", "drawn"] ["bag", "many"] (defScope s__law_draw) := ⟨rfl, rfl, rfl, by decide +kernel, rfl, by decide +kernel, by decide +kernel⟩
theorem sc__law_trace : FnScope ["bag", "most", "wide", "base", "found", "turn", "shape", "page"] ["bag", "most", "wide"] (defScope s__law_trace) := ⟨rfl, rfl, rfl, by decide +kernel, rfl, by decide +kernel, by decide +kernel⟩
theorem sc__law_traces : FnScope ["bag", "most", "long", "k"] ["bag", "most", "long"] (defScope s__law_traces) := ⟨rfl, rfl, rfl, by decide +kernel, rfl, by decide +kernel, by decide +kernel⟩
theorem sc__law_last : FnScope ["trace", "room_of", "page", "line", "many"] ["trace", "room_of"] (defScope s__law_last) := ⟨rfl, rfl, rfl, by decide +kernel, rfl, by decide +kernel, by decide +kernel⟩
theorem sc__law_tables : FnScope ["lot", "most", "trace", "room_of"] ["lot", "most"] (defScope s__law_tables) := ⟨rfl, rfl, rfl, by decide +kernel, rfl, by decide +kernel, by decide +kernel⟩
theorem sc__law_lists : FnScope ["many", "left", "found", "k", "more", "one", "spare", "room_of"] ["many", "left"] (defScope s__law_lists) := ⟨rfl, rfl, rfl, by decide +kernel, rfl, by decide +kernel, by decide +kernel⟩
theorem sc_look : FnScope ["traces", "frames"] ["traces", "frames"] (defScope s_look) := ⟨rfl, rfl, rfl, by decide +kernel, rfl, by decide +kernel, by decide +kernel⟩
theorem sc_depths : FnScope ["trace", "line", "found", "page"] ["trace"] (defScope s_depths) := ⟨rfl, rfl, rfl, by decide +kernel, rfl, by decide +kernel, by decide +kernel⟩
theorem sc_curve : FnScope ["trace", "told", "found", "room", "depth"] ["trace"] (defScope s_curve) := ⟨rfl, rfl, rfl, by decide +kernel, rfl, by decide +kernel, by decide +kernel⟩
theorem sc_faults_by_room : FnScope ["trace", "most", "told", "room"] ["trace", "most"] (defScope s_faults_by_room) := ⟨rfl, rfl, rfl, by decide +kernel, rfl, by decide +kernel, by decide +kernel⟩
theorem sc_deal : FnScope ["traces", "frames", "best", "behind", "trace", "many", "newer", "left", "some", "room", "total", "rooms"] ["traces", "frames"] (defScope s_deal) := ⟨rfl, rfl, rfl, by decide +kernel, rfl, by decide +kernel, by decide +kernel⟩
theorem sc_law : FnScope ["script", "bag", "turn", "lot", "there", "tables", "costs", "one", "handed", "found", "trace", "k"] ["script"] (defScope s_law) := ⟨rfl, rfl, rfl, by decide +kernel, rfl, by decide +kernel, by decide +kernel⟩
structure Wd (K : PySem.W.Frag) (mg : Str → Option Value) where
  a__law_bag : Addr
  d__law_bag : FuncData
  F__law_bag : FnP K "_law_bag" s__law_bag a__law_bag d__law_bag
  g__law_bag : mg "_law_bag" = some (.ref a__law_bag)
  b__law_bag : Binds K d__law_bag ["script"] []
  a__law_draw : Addr
  d__law_draw : FuncData
  F__law_draw : FnP K "_law_draw" s__law_draw a__law_draw d__law_draw
  g__law_draw : mg "_law_draw" = some (.ref a__law_draw)
  b__law_draw : Binds K d__law_draw ["bag", "many"] []
  a__law_trace : Addr
  d__law_trace : FuncData
  F__law_trace : FnP K "_law_trace" s__law_trace a__law_trace d__law_trace
  g__law_trace : mg "_law_trace" = some (.ref a__law_trace)
  b__law_trace : Binds K d__law_trace ["bag", "most", "wide"] []
  a__law_traces : Addr
  d__law_traces : FuncData
  F__law_traces : FnP K "_law_traces" s__law_traces a__law_traces d__law_traces
  g__law_traces : mg "_law_traces" = some (.ref a__law_traces)
  b__law_traces : Binds K d__law_traces ["bag", "most", "long"] []
  a__law_last : Addr
  d__law_last : FuncData
  F__law_last : FnP K "_law_last" s__law_last a__law_last d__law_last
  g__law_last : mg "_law_last" = some (.ref a__law_last)
  b__law_last : Binds K d__law_last ["trace", "room_of"] []
  a__law_tables : Addr
  d__law_tables : FuncData
  F__law_tables : FnP K "_law_tables" s__law_tables a__law_tables d__law_tables
  g__law_tables : mg "_law_tables" = some (.ref a__law_tables)
  b__law_tables : Binds K d__law_tables ["lot", "most"] []
  a__law_lists : Addr
  d__law_lists : FuncData
  F__law_lists : FnP K "_law_lists" s__law_lists a__law_lists d__law_lists
  g__law_lists : mg "_law_lists" = some (.ref a__law_lists)
  b__law_lists : Binds K d__law_lists ["many", "left"] []
  a_look : Addr
  d_look : FuncData
  F_look : FnP K "look" s_look a_look d_look
  g_look : mg "look" = some (.ref a_look)
  b_look : Binds K d_look ["traces", "frames"] []
  a_depths : Addr
  d_depths : FuncData
  F_depths : FnP K "depths" s_depths a_depths d_depths
  g_depths : mg "depths" = some (.ref a_depths)
  b_depths : Binds K d_depths ["trace"] []
  a_curve : Addr
  d_curve : FuncData
  F_curve : FnP K "curve" s_curve a_curve d_curve
  g_curve : mg "curve" = some (.ref a_curve)
  b_curve : Binds K d_curve ["trace"] []
  a_faults_by_room : Addr
  d_faults_by_room : FuncData
  F_faults_by_room : FnP K "faults_by_room" s_faults_by_room a_faults_by_room d_faults_by_room
  g_faults_by_room : mg "faults_by_room" = some (.ref a_faults_by_room)
  b_faults_by_room : Binds K d_faults_by_room ["trace", "most"] []
  a_deal : Addr
  d_deal : FuncData
  F_deal : FnP K "deal" s_deal a_deal d_deal
  g_deal : mg "deal" = some (.ref a_deal)
  b_deal : Binds K d_deal ["traces", "frames"] []
  a_law : Addr
  d_law : FuncData
  F_law : FnP K "law" s_law a_law d_law
  g_law : mg "law" = some (.ref a_law)
  b_law : Binds K d_law ["script"] []
  l_abs : mg "abs" = none
  l_enumerate : mg "enumerate" = none
  l_isinstance : mg "isinstance" = none
  l_len : mg "len" = none
  l_list : mg "list" = none
  l_max : mg "max" = none
  l_min : mg "min" = none
  l_range : mg "range" = none
  l_reversed : mg "reversed" = none
  l_sum : mg "sum" = none
section
variable {P : Program} {w : World} {K : PySem.W.Frag} {mg : Str → Option Value} {base : Heap}
def gkb_deal_0 {α : Type} : List α → List α
  | [a, b] => [b, a]
  | x => x
theorem kb_deal_0 (W : Wd K mg) : KBn K W.d_deal ["traces", "frames"] 0 ["frames", "traces"] (fun _ ws => gkb_deal_0 ws) (fun _ zs => gkb_deal_0 zs) :=
  J.kb0 W.F_deal _ gkb_deal_0 (fun r => by
      cases r with
      | nil => exact .nil
      | cons r0 r =>
        cases r with
        | nil => exact (.cons r0 .nil)
        | cons r1 r =>
          cases r with
          | nil => exact (.cons r1 (.cons r0 .nil))
          | cons r2 r =>
            exact (.cons r0 (.cons r1 (.cons r2 r))))
    (fun _ _ _ _ _ _ ws hl => match ws, hl with | [a, b], _ => rfl)
structure G_law_bag where
  p0 : PySem.Addr
  a0 : List Int
  out : ((List Int) × (Int × (Int × Int)))
abbrev R_law_bag (r : ((List Int) × (Int × (Int × Int)))) : J.Slot := (J.Slot.own (J.Cel.dk [Sum.inr ("great" : PySem.Str), Sum.inr ("left" : PySem.Str), Sum.inr ("turn" : PySem.Str), Sum.inr ("fold" : PySem.Str)] [(J.Slot.own (J.Cel.lst ((r.1 : List Int).map J.Slot.val))), (J.Slot.val (r.2.1 : Int)), (J.Slot.val (r.2.2.1 : Int)), (J.Slot.val (r.2.2.2 : Int))]))
abbrev C_law_bag (p0 : PySem.Addr) (a0 : List Int) (r : ((List Int) × (Int × (Int × Int)))) : List (PySem.Addr × J.Cel) := []
abbrev A_law_bag (p0 : PySem.Addr) (a0 : List Int) : List J.Slot := [(J.Slot.v (.ref p0))]
abbrev D_law_bag (p0 : PySem.Addr) (a0 : List Int) : List (PySem.Addr × J.Cel) := []
def F_law_bag (K : PySem.W.Frag) : J.FS G_law_bag where
  pre := fun g => m_law_bag g.a0 = some g.out
  preG := fun g G => L2.SqL K G g.p0 (g.a0.map V.int)
  args := fun g => A_law_bag g.p0 g.a0
  cells := fun g => D_law_bag g.p0 g.a0
  res := fun g => R_law_bag g.out
  cells' := fun g => C_law_bag g.p0 g.a0 g.out
theorem ok_law_bag (W : Wd K mg) : FnOk P w K mg base CX0 1 W.a__law_bag W.d__law_bag ["script"] (F_law_bag K).sp := by
  refine J.fn_okD (F_law_bag K) W.F__law_bag sc__law_bag (fun g => rfl) (fun g => by intro s hs; simp only [F_law_bag, List.mem_cons, List.not_mem_nil, or_false] at hs; rcases hs with rfl <;> first | rfl | exact J.xsl_plain) (fun cdv A outer s H E hr B g h hG => ?_)
  have hN := (sc__law_bag).nd
  obtain ⟨p0, a0, r0⟩ := g
  change m_law_bag a0 = some r0 at h
  unfold m_law_bag at h
  change J.JS _ B (⟨[(J.Slot.v (.ref p0)), J.Slot.any, J.Slot.any, J.Slot.any], []⟩ : J.Stt) _ (J.fend B (F_law_bag K) ⟨p0, a0, r0⟩)
  refine J.js_parG (hN := hN) 2 3 J.je_int (J.je_lstv (xs := ([] : List Int)) J.ja_nil) fun p1 p2 => ?_
  change J.JS _ _ (⟨[(J.Slot.v (.ref p0)), J.Slot.any, (J.Slot.val (11 : Int)), (J.Slot.v (.ref p2))], [(p2, (J.Cel.lst ((([] : List Int) : List Int).map J.Slot.val)))]⟩ : J.Stt) _ _
  obtain ⟨s10, hs10, h⟩ := J.bndE h
  refine J.js_forE (π := Unit) (f := m_law_bag_b0) (Sf := fun (q4 : Unit) (s3 : ((List Int) × Int)) => (⟨[(J.Slot.v (.ref p0)), J.Slot.any, (J.Slot.val (s3.2 : Int)), (J.Slot.v (.ref p2))], [(p2, (J.Cel.lst ((s3.1 : List Int).map J.Slot.val)))]⟩ : J.Stt)) (Sb := fun (q4 : Unit) (s3 : ((List Int) × Int)) (x5 : Int) => (⟨[(J.Slot.v (.ref p0)), (J.Slot.val (x5 : Int)), (J.Slot.val (s3.2 : Int)), (J.Slot.v (.ref p2))], [(p2, (J.Cel.lst ((s3.1 : List Int).map J.Slot.val)))]⟩ : J.Stt)) hs10 (J.ji_pre (ns := a0) (J.je_var 0 rfl) hG) (fun _ _ _ _ g => ⟨(), J.le_fgt (sl := [(J.Slot.v (.ref p0)), J.Slot.any, (J.Slot.val ((([] : List Int), 11).2 : Int)), (J.Slot.v (.ref p2))]) (cs := [(p2, (J.Cel.lst (((([] : List Int), 11).1 : List Int).map J.Slot.val)))]) 1 (.keep (.drop (.keep (.keep .nil)))) rfl _ _ _ _ g⟩) (fun _ _ => trivial) (fun q4 s3 x5 => (J.jg_name 1 (hN := hN))) (fun q4 s3 x5 sY _ h => ?_) (fun q4 => ?_)
  · unfold m_law_bag_b0 at h
    change J.JS _ _ (⟨[(J.Slot.v (.ref p0)), (J.Slot.val (x5 : Int)), (J.Slot.val (s3.2 : Int)), (J.Slot.v (.ref p2))], [(p2, (J.Cel.lst ((s3.1 : List Int).map J.Slot.val)))]⟩ : J.Stt) _ _
    obtain ⟨x6, hx6, h⟩ := J.bndE h
    refine J.js_set (hN := hN) 2 (J.je_let (J.je_mod (J.je_add (J.je_mulR (J.je_var 2 rfl) J.je_int (by decide)) (J.je_var 1 rfl)) J.je_int (by decide)) hx6) ?_
    obtain ⟨s7, hs7, h⟩ := J.bndE h
    refine J.js_ifE (π := Unit) (Sq := fun (q8 : Unit) => (⟨[(J.Slot.v (.ref p0)), (J.Slot.val (x5 : Int)), (J.Slot.val (x6 : Int)), (J.Slot.v (.ref p2))], [(p2, (J.Cel.lst ((s7 : List Int).map J.Slot.val)))]⟩ : J.Stt)) (J.jt_ge (J.je_abs W.l_abs (J.je_var 1 rfl)) (J.je_powG 18 J.je_int J.je_int (by decide) (show J.powG 10 18 = some 1000000000000000000 by decide +kernel))) (fun hp => ?_) (fun hp => ?_) (fun q8 => ?_)
    · have h := J.ifT hp hs7
      obtain ⟨x9, hx9, h⟩ := J.bndE h
      refine J.js_expr (J.je_appG (xs := s3.1) (t := ((if x5 < 0 then -x5 else x5) : Int)) 0 (J.je_var 3 rfl) rfl (J.je_abs W.l_abs (J.je_var 1 rfl)) rfl hx9) ?_
      have h9 := Option.some.inj h
      subst h9
      exact J.js_loopEnd (Sq := fun (q8 : Unit) (s7 : (List Int)) => (⟨[(J.Slot.v (.ref p0)), (J.Slot.val (x5 : Int)), (J.Slot.val (x6 : Int)), (J.Slot.v (.ref p2))], [(p2, (J.Cel.lst ((s7 : List Int).map J.Slot.val)))]⟩ : J.Stt)) (s' := x9) 1 () (.keep (.keep (.keep (.keep .nil)))) rfl rfl
    · have h := J.ifF hp hs7
      have h9 := Option.some.inj h
      subst h9
      exact J.js_loopEnd (Sq := fun (q8 : Unit) (s7 : (List Int)) => (⟨[(J.Slot.v (.ref p0)), (J.Slot.val (x5 : Int)), (J.Slot.val (x6 : Int)), (J.Slot.v (.ref p2))], [(p2, (J.Cel.lst ((s7 : List Int).map J.Slot.val)))]⟩ : J.Stt)) (s' := s3.1) 1 () (.keep (.keep (.keep (.keep .nil)))) rfl rfl
    have h9 := Option.some.inj h
    subst h9
    exact J.js_nil fun T tv σ H g => ⟨(), J.le_fgt (sl := [(J.Slot.v (.ref p0)), J.Slot.any, (J.Slot.val ((s7, x6).2 : Int)), (J.Slot.v (.ref p2))]) (cs := [(p2, (J.Cel.lst (((s7, x6).1 : List Int).map J.Slot.val)))]) 1 (.keep (.drop (.keep (.keep .nil)))) rfl _ _ _ _ g⟩
  change J.JS _ _ (⟨[(J.Slot.v (.ref p0)), J.Slot.any, (J.Slot.val (s10.2 : Int)), (J.Slot.v (.ref p2))], [(p2, (J.Cel.lst ((s10.1 : List Int).map J.Slot.val)))]⟩ : J.Stt) _ _
  have h9 := Option.some.inj h
  subst h9
  exact J.js_ret (J.je_fold 0 0 (J.je_dispH (kvs := [(_, _), (_, _), (_, _), (_, _)]) (J.jps_cons (key := ("great" : PySem.Str)) J.je_str (J.je_var 3 rfl) (J.jps_cons (key := ("left" : PySem.Str)) J.je_str J.je_int (J.jps_cons (key := ("turn" : PySem.Str)) J.je_str J.je_int (J.jps_cons (key := ("fold" : PySem.Str)) J.je_str (J.je_var 2 rfl) J.jps_nil))))) rfl rfl) fun v H o => J.Out.take 0 o
structure G_law_draw where
  p0 : PySem.Addr
  p0_0 : PySem.Addr
  a1 : Int
  a0_0 : (List Int)
  a0_1 : Int
  a0_2 : Int
  a0_3 : Int
  out : (Int × (Int × (Int × (List Int))))
abbrev R_law_draw (r : (Int × (Int × (Int × (List Int))))) : J.Slot := (J.Slot.val (r.1 : Int))
abbrev C_law_draw (p0 : PySem.Addr) (p0_0 : PySem.Addr) (a1 : Int) (a0_0 : (List Int)) (a0_1 : Int) (a0_2 : Int) (a0_3 : Int) (r : (Int × (Int × (Int × (List Int))))) : List (PySem.Addr × J.Cel) := [(p0, (J.Cel.dk [Sum.inr ("great" : PySem.Str), Sum.inr ("left" : PySem.Str), Sum.inr ("turn" : PySem.Str), Sum.inr ("fold" : PySem.Str)] [(J.Slot.v (.ref p0_0)), (J.Slot.val (r.2.1 : Int)), (J.Slot.val (r.2.2.1 : Int)), (J.Slot.val (a0_3 : Int))])), (p0_0, (J.Cel.lst ((r.2.2.2 : List Int).map J.Slot.val)))]
abbrev A_law_draw (p0 : PySem.Addr) (p0_0 : PySem.Addr) (a1 : Int) (a0_0 : (List Int)) (a0_1 : Int) (a0_2 : Int) (a0_3 : Int) : List J.Slot := [(J.Slot.v (.ref p0)), (J.Slot.val (a1 : Int))]
abbrev D_law_draw (p0 : PySem.Addr) (p0_0 : PySem.Addr) (a1 : Int) (a0_0 : (List Int)) (a0_1 : Int) (a0_2 : Int) (a0_3 : Int) : List (PySem.Addr × J.Cel) := [(p0, (J.Cel.dk [Sum.inr ("great" : PySem.Str), Sum.inr ("left" : PySem.Str), Sum.inr ("turn" : PySem.Str), Sum.inr ("fold" : PySem.Str)] [(J.Slot.v (.ref p0_0)), (J.Slot.val (a0_1 : Int)), (J.Slot.val (a0_2 : Int)), (J.Slot.val (a0_3 : Int))])), (p0_0, (J.Cel.lst ((a0_0 : List Int).map J.Slot.val)))]
def F_law_draw (K : PySem.W.Frag) : J.FS G_law_draw where
  pre := fun g => m_law_draw g.a1 g.a0_0 g.a0_1 g.a0_2 g.a0_3 = some g.out
  preG := fun _ _ => True
  args := fun g => A_law_draw g.p0 g.p0_0 g.a1 g.a0_0 g.a0_1 g.a0_2 g.a0_3
  cells := fun g => D_law_draw g.p0 g.p0_0 g.a1 g.a0_0 g.a0_1 g.a0_2 g.a0_3
  res := fun g => R_law_draw g.out
  cells' := fun g => C_law_draw g.p0 g.p0_0 g.a1 g.a0_0 g.a0_1 g.a0_2 g.a0_3 g.out
theorem ok_law_draw (W : Wd K mg) : FnOk P w K mg base CX0 1 W.a__law_draw W.d__law_draw ["bag", "many"] (F_law_draw K).sp := by
  refine J.fn_okD (F_law_draw K) W.F__law_draw sc__law_draw (fun g => rfl) (fun g => by intro s hs; simp only [F_law_draw, List.mem_cons, List.not_mem_nil, or_false] at hs; rcases hs with rfl | rfl <;> first | rfl | exact J.xsl_plain) (fun cdv A outer s H E hr B g h hG => ?_)
  have hN := (sc__law_draw).nd
  obtain ⟨p0, p0_0, a1, a0_0, a0_1, a0_2, a0_3, r0⟩ := g
  change m_law_draw a1 a0_0 a0_1 a0_2 a0_3 = some r0 at h
  unfold m_law_draw at h
  change J.JS _ B (⟨[(J.Slot.v (.ref p0)), (J.Slot.val (a1 : Int)), J.Slot.any, J.Slot.any, J.Slot.any], [(p0, (J.Cel.dk [Sum.inr ("great" : PySem.Str), Sum.inr ("left" : PySem.Str), Sum.inr ("turn" : PySem.Str), Sum.inr ("fold" : PySem.Str)] [(J.Slot.v (.ref p0_0)), (J.Slot.val (a0_1 : Int)), (J.Slot.val (a0_2 : Int)), (J.Slot.val (a0_3 : Int))])), (p0_0, (J.Cel.lst ((a0_0 : List Int).map J.Slot.val)))]⟩ : J.Stt) _ (J.fend B (F_law_draw K) ⟨p0, p0_0, a1, a0_0, a0_1, a0_2, a0_3, r0⟩)
  obtain ⟨s1, hs1, h⟩ := J.bndE h
  refine J.js_ifE (π := Unit) (Sq := fun (q2 : Unit) => (⟨[(J.Slot.v (.ref p0)), (J.Slot.val (a1 : Int)), J.Slot.any, J.Slot.any, J.Slot.any], [(p0, (J.Cel.dk [Sum.inr ("great" : PySem.Str), Sum.inr ("left" : PySem.Str), Sum.inr ("turn" : PySem.Str), Sum.inr ("fold" : PySem.Str)] [(J.Slot.v (.ref p0_0)), (J.Slot.val (s1.1 : Int)), (J.Slot.val (a0_2 : Int)), (J.Slot.val (a0_3 : Int))])), (p0_0, (J.Cel.lst ((s1.2 : List Int).map J.Slot.val)))]⟩ : J.Stt)) (J.JW.t (J.jw_and (J.jt_lt (J.je_dgetH 0 1 hr (J.je_var 0 rfl) J.je_str rfl rfl rfl) (J.je_var 1 rfl)) fun _ => (J.jw_and1 (J.jt_gt (J.je_len (n := "len") (xs := a0_0) W.l_len (J.je_dgetH 0 0 hr (J.je_var 0 rfl) J.je_str rfl rfl rfl) (J.lv_cell' 1 rfl)) J.je_int)))) (fun hp => ?_) (fun hp => ?_) (fun q2 => ?_)
  · have h := J.ifT hp hs1
    obtain ⟨x3, hx3, h⟩ := J.bndE h
    refine J.js_dputH 0 1 hr (J.je_popG (xs := a0_0) 1 (J.je_dgetH 0 0 hr (J.je_var 0 rfl) J.je_str rfl rfl rfl) rfl J.je_int rfl hx3) (J.je_var 0 rfl) J.je_str rfl rfl ?_
    have h9 := Option.some.inj h
    subst h9
    exact J.js_loopEnd (Sq := fun (q2 : Unit) (s1 : (Int × (List Int))) => (⟨[(J.Slot.v (.ref p0)), (J.Slot.val (a1 : Int)), J.Slot.any, J.Slot.any, J.Slot.any], [(p0, (J.Cel.dk [Sum.inr ("great" : PySem.Str), Sum.inr ("left" : PySem.Str), Sum.inr ("turn" : PySem.Str), Sum.inr ("fold" : PySem.Str)] [(J.Slot.v (.ref p0_0)), (J.Slot.val (s1.1 : Int)), (J.Slot.val (a0_2 : Int)), (J.Slot.val (a0_3 : Int))])), (p0_0, (J.Cel.lst ((s1.2 : List Int).map J.Slot.val)))]⟩ : J.Stt)) (s' := (x3.1, x3.2)) 2 () (.keep (.keep (.drop (.drop (.drop .nil))))) rfl rfl
  · have h := J.ifF hp hs1
    have h9 := Option.some.inj h
    subst h9
    exact J.js_loopEnd (Sq := fun (q2 : Unit) (s1 : (Int × (List Int))) => (⟨[(J.Slot.v (.ref p0)), (J.Slot.val (a1 : Int)), J.Slot.any, J.Slot.any, J.Slot.any], [(p0, (J.Cel.dk [Sum.inr ("great" : PySem.Str), Sum.inr ("left" : PySem.Str), Sum.inr ("turn" : PySem.Str), Sum.inr ("fold" : PySem.Str)] [(J.Slot.v (.ref p0_0)), (J.Slot.val (s1.1 : Int)), (J.Slot.val (a0_2 : Int)), (J.Slot.val (a0_3 : Int))])), (p0_0, (J.Cel.lst ((s1.2 : List Int).map J.Slot.val)))]⟩ : J.Stt)) (s' := (a0_1, a0_0)) 2 () (.keep (.keep (.drop (.drop (.drop .nil))))) rfl rfl
  refine J.js_if (J.jt_ge (J.je_dgetH 0 1 hr (J.je_var 0 rfl) J.je_str rfl rfl rfl) (J.je_var 1 rfl)) (fun hp => ?_) (fun hp => ?_)
  · replace h := J.ifT hp h
    obtain ⟨x4, hx4, h⟩ := J.bndE h
    refine J.js_set (hN := hN) 4 (J.je_modG (J.je_dgetH 0 1 hr (J.je_var 0 rfl) J.je_str rfl rfl rfl) (J.je_var 1 rfl) hx4) ?_
    obtain ⟨x5, hx5, h⟩ := J.bndE h
    refine J.js_dputH 0 1 hr (J.je_divG (J.je_dgetH 0 1 hr (J.je_var 0 rfl) J.je_str rfl rfl rfl) (J.je_var 1 rfl) hx5) (J.je_var 0 rfl) J.je_str rfl rfl ?_
    have h9 := Option.some.inj h
    subst h9
    exact J.js_ret (J.je_var 4 rfl) fun v H o => J.Out.take 2 o
  · replace h := J.ifF hp h
    refine J.js_end ?_
    change J.JS _ _ (⟨[(J.Slot.v (.ref p0)), (J.Slot.val (a1 : Int)), J.Slot.any, J.Slot.any, J.Slot.any], [(p0, (J.Cel.dk [Sum.inr ("great" : PySem.Str), Sum.inr ("left" : PySem.Str), Sum.inr ("turn" : PySem.Str), Sum.inr ("fold" : PySem.Str)] [(J.Slot.v (.ref p0_0)), (J.Slot.val (s1.1 : Int)), (J.Slot.val (a0_2 : Int)), (J.Slot.val (a0_3 : Int))])), (p0_0, (J.Cel.lst ((s1.2 : List Int).map J.Slot.val)))]⟩ : J.Stt) _ _
    refine J.js_daugH 0 2 L2.in_add hr (J.je_var 0 rfl) J.je_str rfl rfl rfl J.je_int rfl ?_
    change J.JS _ _ (⟨[(J.Slot.v (.ref p0)), (J.Slot.val (a1 : Int)), J.Slot.any, J.Slot.any, J.Slot.any], [(p0, (J.Cel.dk [Sum.inr ("great" : PySem.Str), Sum.inr ("left" : PySem.Str), Sum.inr ("turn" : PySem.Str), Sum.inr ("fold" : PySem.Str)] [(J.Slot.v (.ref p0_0)), (J.Slot.val (s1.1 : Int)), (J.Slot.val ((a0_2 + 1) : Int)), (J.Slot.val (a0_3 : Int))])), (p0_0, (J.Cel.lst ((s1.2 : List Int).map J.Slot.val)))]⟩ : J.Stt) _ _
    refine J.js_set (hN := hN) 2 (J.je_dgetH 0 2 hr (J.je_var 0 rfl) J.je_str rfl rfl rfl) ?_
    obtain ⟨x6, hx6, h⟩ := J.bndE h
    obtain ⟨x7, hx7, h⟩ := J.bndE h
    obtain ⟨x8, hx8, h⟩ := J.bndE h
    refine J.js_set (hN := hN) 3 (J.je_let (J.je_add (J.je_mulG (J.je_add (J.je_dgetH 0 3 hr (J.je_var 0 rfl) J.je_str rfl rfl rfl) (J.je_mulL J.je_int (J.je_var 2 rfl) (by decide))) (J.je_powG 2 (J.je_add (J.je_var 2 rfl) J.je_int) J.je_int (by decide) hx6) hx7) (J.je_mulL J.je_int (J.je_var 2 rfl) (by decide))) hx8) ?_
    obtain ⟨x9, hx9, h⟩ := J.bndE h
    obtain ⟨x10, hx10, h⟩ := J.bndE h
    have h9 := Option.some.inj h
    subst h9
    exact J.js_ret (J.je_modG (J.je_div (J.je_mod (J.je_powG 3 (J.je_mod (J.je_var 3 rfl) J.je_int (by decide)) J.je_int (by decide) hx9) (J.je_add (J.je_powG 18 J.je_int J.je_int (by decide) (show J.powG 10 18 = some 1000000000000000000 by decide +kernel)) J.je_int) (by decide)) J.je_int (by decide)) (J.je_var 1 rfl) hx10) fun v H o => J.Out.take 2 o
structure G_law_trace where
  p0 : PySem.Addr
  p0_0 : PySem.Addr
  a1 : Int
  a2 : Int
  a0_0 : (List Int)
  a0_1 : Int
  a0_2 : Int
  a0_3 : Int
  out : ((List Int) × (Int × (Int × (List Int))))
abbrev R_law_trace (r : ((List Int) × (Int × (Int × (List Int))))) : J.Slot := (J.Slot.own (J.Cel.lst ((r.1 : List Int).map J.Slot.val)))
abbrev C_law_trace (p0 : PySem.Addr) (p0_0 : PySem.Addr) (a1 : Int) (a2 : Int) (a0_0 : (List Int)) (a0_1 : Int) (a0_2 : Int) (a0_3 : Int) (r : ((List Int) × (Int × (Int × (List Int))))) : List (PySem.Addr × J.Cel) := [(p0, (J.Cel.dk [Sum.inr ("great" : PySem.Str), Sum.inr ("left" : PySem.Str), Sum.inr ("turn" : PySem.Str), Sum.inr ("fold" : PySem.Str)] [(J.Slot.v (.ref p0_0)), (J.Slot.val (r.2.1 : Int)), (J.Slot.val (r.2.2.1 : Int)), (J.Slot.val (a0_3 : Int))])), (p0_0, (J.Cel.lst ((r.2.2.2 : List Int).map J.Slot.val)))]
abbrev A_law_trace (p0 : PySem.Addr) (p0_0 : PySem.Addr) (a1 : Int) (a2 : Int) (a0_0 : (List Int)) (a0_1 : Int) (a0_2 : Int) (a0_3 : Int) : List J.Slot := [(J.Slot.v (.ref p0)), (J.Slot.val (a1 : Int)), (J.Slot.val (a2 : Int))]
abbrev D_law_trace (p0 : PySem.Addr) (p0_0 : PySem.Addr) (a1 : Int) (a2 : Int) (a0_0 : (List Int)) (a0_1 : Int) (a0_2 : Int) (a0_3 : Int) : List (PySem.Addr × J.Cel) := [(p0, (J.Cel.dk [Sum.inr ("great" : PySem.Str), Sum.inr ("left" : PySem.Str), Sum.inr ("turn" : PySem.Str), Sum.inr ("fold" : PySem.Str)] [(J.Slot.v (.ref p0_0)), (J.Slot.val (a0_1 : Int)), (J.Slot.val (a0_2 : Int)), (J.Slot.val (a0_3 : Int))])), (p0_0, (J.Cel.lst ((a0_0 : List Int).map J.Slot.val)))]
def F_law_trace (K : PySem.W.Frag) : J.FS G_law_trace where
  pre := fun g => m_law_trace g.a1 g.a2 g.a0_0 g.a0_1 g.a0_2 g.a0_3 = some g.out
  preG := fun _ _ => True
  args := fun g => A_law_trace g.p0 g.p0_0 g.a1 g.a2 g.a0_0 g.a0_1 g.a0_2 g.a0_3
  cells := fun g => D_law_trace g.p0 g.p0_0 g.a1 g.a2 g.a0_0 g.a0_1 g.a0_2 g.a0_3
  res := fun g => R_law_trace g.out
  cells' := fun g => C_law_trace g.p0 g.p0_0 g.a1 g.a2 g.a0_0 g.a0_1 g.a0_2 g.a0_3 g.out
theorem ok_law_trace (W : Wd K mg) : FnOk P w K mg base CX0 2 W.a__law_trace W.d__law_trace ["bag", "most", "wide"] (F_law_trace K).sp := by
  refine J.fn_okD (F_law_trace K) W.F__law_trace sc__law_trace (fun g => rfl) (fun g => by intro s hs; simp only [F_law_trace, List.mem_cons, List.not_mem_nil, or_false] at hs; rcases hs with rfl | rfl | rfl <;> first | rfl | exact J.xsl_plain) (fun cdv A outer s H E hr B g h hG => ?_)
  have hN := (sc__law_trace).nd
  obtain ⟨p0, p0_0, a1, a2, a0_0, a0_1, a0_2, a0_3, r0⟩ := g
  change m_law_trace a1 a2 a0_0 a0_1 a0_2 a0_3 = some r0 at h
  unfold m_law_trace at h
  change J.JS _ B (⟨[(J.Slot.v (.ref p0)), (J.Slot.val (a1 : Int)), (J.Slot.val (a2 : Int)), J.Slot.any, J.Slot.any, J.Slot.any, J.Slot.any, J.Slot.any], [(p0, (J.Cel.dk [Sum.inr ("great" : PySem.Str), Sum.inr ("left" : PySem.Str), Sum.inr ("turn" : PySem.Str), Sum.inr ("fold" : PySem.Str)] [(J.Slot.v (.ref p0_0)), (J.Slot.val (a0_1 : Int)), (J.Slot.val (a0_2 : Int)), (J.Slot.val (a0_3 : Int))])), (p0_0, (J.Cel.lst ((a0_0 : List Int).map J.Slot.val)))]⟩ : J.Stt) _ (J.fend B (F_law_trace K) ⟨p0, p0_0, a1, a2, a0_0, a0_1, a0_2, a0_3, r0⟩)
  obtain ⟨x1, hx1, h⟩ := J.bndE h
  obtain ⟨x2, hx2, h⟩ := J.bndE h
  refine J.js_set (hN := hN) 3 (J.je_ixt (xs := PySem.W.Tup.mk ([0, 0, (1000000000 - 60)] : List Int)) (J.je_tupv (xs := ([0, 0, (1000000000 - 60)] : List Int)) (J.ja_cons J.je_int (J.ja_cons J.je_int (J.ja_cons (J.je_sub (J.je_powG 9 J.je_int J.je_int (by decide) (show J.powG 10 9 = some 1000000000 by decide +kernel)) J.je_int) J.ja_nil)))) (J.je_call (f := F_law_draw K) (ok_law_draw W) hr (by decide) W.g__law_draw W.F__law_draw.kp W.b__law_draw (J.ja_cons (J.je_var 0 rfl) (J.ja_cons J.je_int J.ja_nil)) (g := (⟨p0, p0_0, 3, a0_0, a0_1, a0_2, a0_3, x1⟩ : G_law_draw)) hx1 rfl (.cons 0 rfl (by nofun) (.cons 1 rfl (by nofun) .nil)) (.cons 0 rfl (.cons 1 rfl .nil)) (hG := fun G e => trivial)) hx2) ?_
  change J.JS _ _ (⟨[(J.Slot.v (.ref p0)), (J.Slot.val (a1 : Int)), (J.Slot.val (a2 : Int)), (J.Slot.val (x2 : Int)), J.Slot.any, J.Slot.any, J.Slot.any, J.Slot.any], [(p0, (J.Cel.dk [Sum.inr ("great" : PySem.Str), Sum.inr ("left" : PySem.Str), Sum.inr ("turn" : PySem.Str), Sum.inr ("fold" : PySem.Str)] [(J.Slot.v (.ref p0_0)), (J.Slot.val (x1.2.1 : Int)), (J.Slot.val (x1.2.2.1 : Int)), (J.Slot.val (a0_3 : Int))])), (p0_0, (J.Cel.lst ((x1.2.2.2 : List Int).map J.Slot.val)))]⟩ : J.Stt) _ _
  refine J.js_new (hN := hN) 4 (J.je_lstv (xs := ([] : List Int)) J.ja_nil) fun p3 => ?_
  obtain ⟨x4, hx4, h⟩ := J.bndE h
  obtain ⟨x5, hx5, h⟩ := J.bndE h
  obtain ⟨s19, hs19, h⟩ := J.bndE h
  refine J.js_forE (π := Unit) (f := m_law_trace_b0 a2 a0_3 x2) (Sf := fun (q7 : Unit) (s6 : (Int × (Int × ((List Int) × (List Int))))) => (⟨[(J.Slot.v (.ref p0)), (J.Slot.val (a1 : Int)), (J.Slot.val (a2 : Int)), (J.Slot.val (x2 : Int)), (J.Slot.v (.ref p3)), J.Slot.any, J.Slot.any, J.Slot.any], [(p0, (J.Cel.dk [Sum.inr ("great" : PySem.Str), Sum.inr ("left" : PySem.Str), Sum.inr ("turn" : PySem.Str), Sum.inr ("fold" : PySem.Str)] [(J.Slot.v (.ref p0_0)), (J.Slot.val (s6.1 : Int)), (J.Slot.val (s6.2.1 : Int)), (J.Slot.val (a0_3 : Int))])), (p0_0, (J.Cel.lst ((s6.2.2.1 : List Int).map J.Slot.val))), (p3, (J.Cel.lst ((s6.2.2.2 : List Int).map J.Slot.val)))]⟩ : J.Stt)) (Sb := fun (q7 : Unit) (s6 : (Int × (Int × ((List Int) × (List Int))))) (x8 : Int) => (⟨[(J.Slot.v (.ref p0)), (J.Slot.val (a1 : Int)), (J.Slot.val (a2 : Int)), (J.Slot.val (x2 : Int)), (J.Slot.v (.ref p3)), (J.Slot.val (x8 : Int)), J.Slot.any, J.Slot.any], [(p0, (J.Cel.dk [Sum.inr ("great" : PySem.Str), Sum.inr ("left" : PySem.Str), Sum.inr ("turn" : PySem.Str), Sum.inr ("fold" : PySem.Str)] [(J.Slot.v (.ref p0_0)), (J.Slot.val (s6.1 : Int)), (J.Slot.val (s6.2.1 : Int)), (J.Slot.val (a0_3 : Int))])), (p0_0, (J.Cel.lst ((s6.2.2.1 : List Int).map J.Slot.val))), (p3, (J.Cel.lst ((s6.2.2.2 : List Int).map J.Slot.val)))]⟩ : J.Stt)) hs19 (J.ji_rngG W.l_range (J.je_call (f := F_law_draw K) (ok_law_draw W) hr (by decide) W.g__law_draw W.F__law_draw.kp W.b__law_draw (J.ja_cons (J.je_var 0 rfl) (J.ja_cons (J.je_add (J.je_var 1 rfl) J.je_int) J.ja_nil)) (g := (⟨p0, p0_0, (a1 + 1), x1.2.2.2, x1.2.1, x1.2.2.1, a0_3, x4⟩ : G_law_draw)) hx4 rfl (.cons 0 rfl (by nofun) (.cons 1 rfl (by nofun) .nil)) (.cons 0 rfl (.cons 1 rfl .nil)) (hG := fun G e => trivial)) hx5) (fun _ _ _ _ g => ⟨(), J.le_fgt (sl := [(J.Slot.v (.ref p0)), (J.Slot.val (a1 : Int)), (J.Slot.val (a2 : Int)), (J.Slot.val (x2 : Int)), (J.Slot.v (.ref p3)), J.Slot.any, J.Slot.any, J.Slot.any]) (cs := [(p0, (J.Cel.dk [Sum.inr ("great" : PySem.Str), Sum.inr ("left" : PySem.Str), Sum.inr ("turn" : PySem.Str), Sum.inr ("fold" : PySem.Str)] [(J.Slot.v (.ref p0_0)), (J.Slot.val ((x4.2.1, (x4.2.2.1, (x4.2.2.2, ([] : List Int)))).1 : Int)), (J.Slot.val ((x4.2.1, (x4.2.2.1, (x4.2.2.2, ([] : List Int)))).2.1 : Int)), (J.Slot.val (a0_3 : Int))])), (p0_0, (J.Cel.lst (((x4.2.1, (x4.2.2.1, (x4.2.2.2, ([] : List Int)))).2.2.1 : List Int).map J.Slot.val))), (p3, (J.Cel.lst (((x4.2.1, (x4.2.2.1, (x4.2.2.2, ([] : List Int)))).2.2.2 : List Int).map J.Slot.val)))]) 3 (.keep (.keep (.keep (.keep (.keep (.drop (.drop (.drop .nil)))))))) rfl _ _ _ _ g⟩) (fun _ _ => trivial) (fun q7 s6 x8 => (J.jg_name 5 (hN := hN))) (fun q7 s6 x8 sY _ h => ?_) (fun q7 => ?_)
  · unfold m_law_trace_b0 at h
    change J.JS _ _ (⟨[(J.Slot.v (.ref p0)), (J.Slot.val (a1 : Int)), (J.Slot.val (a2 : Int)), (J.Slot.val (x2 : Int)), (J.Slot.v (.ref p3)), (J.Slot.val (x8 : Int)), J.Slot.any, J.Slot.any], [(p0, (J.Cel.dk [Sum.inr ("great" : PySem.Str), Sum.inr ("left" : PySem.Str), Sum.inr ("turn" : PySem.Str), Sum.inr ("fold" : PySem.Str)] [(J.Slot.v (.ref p0_0)), (J.Slot.val (s6.1 : Int)), (J.Slot.val (s6.2.1 : Int)), (J.Slot.val (a0_3 : Int))])), (p0_0, (J.Cel.lst ((s6.2.2.1 : List Int).map J.Slot.val))), (p3, (J.Cel.lst ((s6.2.2.2 : List Int).map J.Slot.val)))]⟩ : J.Stt) _ _
    obtain ⟨x9, hx9, h⟩ := J.bndE h
    refine J.js_set (hN := hN) 6 (J.je_call (f := F_law_draw K) (ok_law_draw W) hr (by decide) W.g__law_draw W.F__law_draw.kp W.b__law_draw (J.ja_cons (J.je_var 0 rfl) (J.ja_cons J.je_int J.ja_nil)) (g := (⟨p0, p0_0, 4, s6.2.2.1, s6.1, s6.2.1, a0_3, x9⟩ : G_law_draw)) hx9 rfl (.cons 0 rfl (by nofun) (.cons 1 rfl (by nofun) .nil)) (.cons 0 rfl (.cons 1 rfl .nil)) (hG := fun G e => trivial)) ?_
    change J.JS _ _ (⟨[(J.Slot.v (.ref p0)), (J.Slot.val (a1 : Int)), (J.Slot.val (a2 : Int)), (J.Slot.val (x2 : Int)), (J.Slot.v (.ref p3)), (J.Slot.val (x8 : Int)), (J.Slot.val (x9.1 : Int)), J.Slot.any], [(p0, (J.Cel.dk [Sum.inr ("great" : PySem.Str), Sum.inr ("left" : PySem.Str), Sum.inr ("turn" : PySem.Str), Sum.inr ("fold" : PySem.Str)] [(J.Slot.v (.ref p0_0)), (J.Slot.val (x9.2.1 : Int)), (J.Slot.val (x9.2.2.1 : Int)), (J.Slot.val (a0_3 : Int))])), (p0_0, (J.Cel.lst ((x9.2.2.2 : List Int).map J.Slot.val))), (p3, (J.Cel.lst ((s6.2.2.2 : List Int).map J.Slot.val)))]⟩ : J.Stt) _ _
    obtain ⟨x10, hx10, h⟩ := J.bndE h
    refine J.js_set (hN := hN) 7 (J.je_add (J.je_var 3 rfl) (J.je_call (f := F_law_draw K) (ok_law_draw W) hr (by decide) W.g__law_draw W.F__law_draw.kp W.b__law_draw (J.ja_cons (J.je_var 0 rfl) (J.ja_cons (J.je_var 2 rfl) J.ja_nil)) (g := (⟨p0, p0_0, a2, x9.2.2.2, x9.2.1, x9.2.2.1, a0_3, x10⟩ : G_law_draw)) hx10 rfl (.cons 0 rfl (by nofun) (.cons 1 rfl (by nofun) .nil)) (.cons 0 rfl (.cons 1 rfl .nil)) (hG := fun G e => trivial))) ?_
    change J.JS _ _ (⟨[(J.Slot.v (.ref p0)), (J.Slot.val (a1 : Int)), (J.Slot.val (a2 : Int)), (J.Slot.val (x2 : Int)), (J.Slot.v (.ref p3)), (J.Slot.val (x8 : Int)), (J.Slot.val (x9.1 : Int)), (J.Slot.val ((x2 + x10.1) : Int))], [(p0, (J.Cel.dk [Sum.inr ("great" : PySem.Str), Sum.inr ("left" : PySem.Str), Sum.inr ("turn" : PySem.Str), Sum.inr ("fold" : PySem.Str)] [(J.Slot.v (.ref p0_0)), (J.Slot.val (x10.2.1 : Int)), (J.Slot.val (x10.2.2.1 : Int)), (J.Slot.val (a0_3 : Int))])), (p0_0, (J.Cel.lst ((x10.2.2.2 : List Int).map J.Slot.val))), (p3, (J.Cel.lst ((s6.2.2.2 : List Int).map J.Slot.val)))]⟩ : J.Stt) _ _
    obtain ⟨s11, hs11, h⟩ := J.bndE h
    refine J.js_ifE (π := Unit) (Sq := fun (q12 : Unit) => (⟨[(J.Slot.v (.ref p0)), (J.Slot.val (a1 : Int)), (J.Slot.val (a2 : Int)), (J.Slot.val (x2 : Int)), (J.Slot.v (.ref p3)), (J.Slot.val (x8 : Int)), (J.Slot.val (x9.1 : Int)), (J.Slot.val (s11 : Int))], [(p0, (J.Cel.dk [Sum.inr ("great" : PySem.Str), Sum.inr ("left" : PySem.Str), Sum.inr ("turn" : PySem.Str), Sum.inr ("fold" : PySem.Str)] [(J.Slot.v (.ref p0_0)), (J.Slot.val (x10.2.1 : Int)), (J.Slot.val (x10.2.2.1 : Int)), (J.Slot.val (a0_3 : Int))])), (p0_0, (J.Cel.lst ((x10.2.2.2 : List Int).map J.Slot.val))), (p3, (J.Cel.lst ((s6.2.2.2 : List Int).map J.Slot.val)))]⟩ : J.Stt)) (J.JW.t (J.jw_and (J.jt_gt (J.je_len (n := "len") (xs := s6.2.2.2) W.l_len (J.je_var 4 rfl) (J.lv_cell' 2 rfl)) J.je_int) fun _ => (J.jw_and1 (J.jt_eq' (t := (x9.1 : Int)) (r := (0 : Int)) hr (J.je_var 6 rfl) J.je_int J.dv_val J.dv_val)))) (fun hp => ?_) (fun hp => ?_) (fun q12 => ?_)
    · have h := J.ifT hp hs11
      obtain ⟨x13, hx13, h⟩ := J.bndE h
      refine J.js_set (hN := hN) 7 (J.je_ixv (xs := s6.2.2.2) (J.je_var 4 rfl) (J.je_neg J.je_int) (J.lv_cell' 2 rfl) hx13) ?_
      have h9 := Option.some.inj h
      subst h9
      exact J.js_loopEnd (Sq := fun (q12 : Unit) (s11 : Int) => (⟨[(J.Slot.v (.ref p0)), (J.Slot.val (a1 : Int)), (J.Slot.val (a2 : Int)), (J.Slot.val (x2 : Int)), (J.Slot.v (.ref p3)), (J.Slot.val (x8 : Int)), (J.Slot.val (x9.1 : Int)), (J.Slot.val (s11 : Int))], [(p0, (J.Cel.dk [Sum.inr ("great" : PySem.Str), Sum.inr ("left" : PySem.Str), Sum.inr ("turn" : PySem.Str), Sum.inr ("fold" : PySem.Str)] [(J.Slot.v (.ref p0_0)), (J.Slot.val (x10.2.1 : Int)), (J.Slot.val (x10.2.2.1 : Int)), (J.Slot.val (a0_3 : Int))])), (p0_0, (J.Cel.lst ((x10.2.2.2 : List Int).map J.Slot.val))), (p3, (J.Cel.lst ((s6.2.2.2 : List Int).map J.Slot.val)))]⟩ : J.Stt)) (s' := x13) 3 () (.keep (.keep (.keep (.keep (.keep (.keep (.keep (.keep .nil)))))))) rfl rfl
    · have h := J.ifF hp hs11
      have h9 := Option.some.inj h
      subst h9
      exact J.js_loopEnd (Sq := fun (q12 : Unit) (s11 : Int) => (⟨[(J.Slot.v (.ref p0)), (J.Slot.val (a1 : Int)), (J.Slot.val (a2 : Int)), (J.Slot.val (x2 : Int)), (J.Slot.v (.ref p3)), (J.Slot.val (x8 : Int)), (J.Slot.val (x9.1 : Int)), (J.Slot.val (s11 : Int))], [(p0, (J.Cel.dk [Sum.inr ("great" : PySem.Str), Sum.inr ("left" : PySem.Str), Sum.inr ("turn" : PySem.Str), Sum.inr ("fold" : PySem.Str)] [(J.Slot.v (.ref p0_0)), (J.Slot.val (x10.2.1 : Int)), (J.Slot.val (x10.2.2.1 : Int)), (J.Slot.val (a0_3 : Int))])), (p0_0, (J.Cel.lst ((x10.2.2.2 : List Int).map J.Slot.val))), (p3, (J.Cel.lst ((s6.2.2.2 : List Int).map J.Slot.val)))]⟩ : J.Stt)) (s' := (x2 + x10.1)) 3 () (.keep (.keep (.keep (.keep (.keep (.keep (.keep (.keep .nil)))))))) rfl rfl
    obtain ⟨s14, hs14, h⟩ := J.bndE h
    refine J.js_ifE (π := Unit) (Sq := fun (q15 : Unit) => (⟨[(J.Slot.v (.ref p0)), (J.Slot.val (a1 : Int)), (J.Slot.val (a2 : Int)), (J.Slot.val (x2 : Int)), (J.Slot.v (.ref p3)), (J.Slot.val (x8 : Int)), (J.Slot.val (x9.1 : Int)), (J.Slot.val (s14.2.2.2 : Int))], [(p0, (J.Cel.dk [Sum.inr ("great" : PySem.Str), Sum.inr ("left" : PySem.Str), Sum.inr ("turn" : PySem.Str), Sum.inr ("fold" : PySem.Str)] [(J.Slot.v (.ref p0_0)), (J.Slot.val (s14.1 : Int)), (J.Slot.val (s14.2.1 : Int)), (J.Slot.val (a0_3 : Int))])), (p0_0, (J.Cel.lst ((s14.2.2.1 : List Int).map J.Slot.val))), (p3, (J.Cel.lst ((s6.2.2.2 : List Int).map J.Slot.val)))]⟩ : J.Stt)) (J.JW.t (J.jw_and (J.jt_gt (J.je_len (n := "len") (xs := s6.2.2.2) W.l_len (J.je_var 4 rfl) (J.lv_cell' 2 rfl)) J.je_int) fun _ => (J.jw_and1 (J.jt_eq' (t := (x9.1 : Int)) (r := (1 : Int)) hr (J.je_var 6 rfl) J.je_int J.dv_val J.dv_val)))) (fun hp => ?_) (fun hp => ?_) (fun q15 => ?_)
    · have h := J.ifT hp hs14
      obtain ⟨x16, hx16, h⟩ := J.bndE h
      obtain ⟨x17, hx17, h⟩ := J.bndE h
      refine J.js_set (hN := hN) 7 (J.je_ixv (xs := s6.2.2.2) (J.je_var 4 rfl) (J.je_sub (J.je_sub (J.je_len (n := "len") (xs := s6.2.2.2) W.l_len (J.je_var 4 rfl) (J.lv_cell' 2 rfl)) J.je_int) (J.je_call (f := F_law_draw K) (ok_law_draw W) hr (by decide) W.g__law_draw W.F__law_draw.kp W.b__law_draw (J.ja_cons (J.je_var 0 rfl) (J.ja_cons J.je_int J.ja_nil)) (g := (⟨p0, p0_0, 4, x10.2.2.2, x10.2.1, x10.2.2.1, a0_3, x16⟩ : G_law_draw)) hx16 rfl (.cons 0 rfl (by nofun) (.cons 1 rfl (by nofun) .nil)) (.cons 0 rfl (.cons 1 rfl .nil)) (hG := fun G e => trivial))) (J.lv_cell' 2 rfl) hx17) ?_
      change J.JS _ _ (⟨[(J.Slot.v (.ref p0)), (J.Slot.val (a1 : Int)), (J.Slot.val (a2 : Int)), (J.Slot.val (x2 : Int)), (J.Slot.v (.ref p3)), (J.Slot.val (x8 : Int)), (J.Slot.val (x9.1 : Int)), (J.Slot.val (x17 : Int))], [(p0, (J.Cel.dk [Sum.inr ("great" : PySem.Str), Sum.inr ("left" : PySem.Str), Sum.inr ("turn" : PySem.Str), Sum.inr ("fold" : PySem.Str)] [(J.Slot.v (.ref p0_0)), (J.Slot.val (x16.2.1 : Int)), (J.Slot.val (x16.2.2.1 : Int)), (J.Slot.val (a0_3 : Int))])), (p0_0, (J.Cel.lst ((x16.2.2.2 : List Int).map J.Slot.val))), (p3, (J.Cel.lst ((s6.2.2.2 : List Int).map J.Slot.val)))]⟩ : J.Stt) _ _
      have h9 := Option.some.inj h
      subst h9
      exact J.js_loopEnd (Sq := fun (q15 : Unit) (s14 : (Int × (Int × ((List Int) × Int)))) => (⟨[(J.Slot.v (.ref p0)), (J.Slot.val (a1 : Int)), (J.Slot.val (a2 : Int)), (J.Slot.val (x2 : Int)), (J.Slot.v (.ref p3)), (J.Slot.val (x8 : Int)), (J.Slot.val (x9.1 : Int)), (J.Slot.val (s14.2.2.2 : Int))], [(p0, (J.Cel.dk [Sum.inr ("great" : PySem.Str), Sum.inr ("left" : PySem.Str), Sum.inr ("turn" : PySem.Str), Sum.inr ("fold" : PySem.Str)] [(J.Slot.v (.ref p0_0)), (J.Slot.val (s14.1 : Int)), (J.Slot.val (s14.2.1 : Int)), (J.Slot.val (a0_3 : Int))])), (p0_0, (J.Cel.lst ((s14.2.2.1 : List Int).map J.Slot.val))), (p3, (J.Cel.lst ((s6.2.2.2 : List Int).map J.Slot.val)))]⟩ : J.Stt)) (s' := (x16.2.1, (x16.2.2.1, (x16.2.2.2, x17)))) 3 () (.keep (.keep (.keep (.keep (.keep (.keep (.keep (.keep .nil)))))))) rfl rfl
    · have h := J.ifF hp hs14
      have h9 := Option.some.inj h
      subst h9
      exact J.js_loopEnd (Sq := fun (q15 : Unit) (s14 : (Int × (Int × ((List Int) × Int)))) => (⟨[(J.Slot.v (.ref p0)), (J.Slot.val (a1 : Int)), (J.Slot.val (a2 : Int)), (J.Slot.val (x2 : Int)), (J.Slot.v (.ref p3)), (J.Slot.val (x8 : Int)), (J.Slot.val (x9.1 : Int)), (J.Slot.val (s14.2.2.2 : Int))], [(p0, (J.Cel.dk [Sum.inr ("great" : PySem.Str), Sum.inr ("left" : PySem.Str), Sum.inr ("turn" : PySem.Str), Sum.inr ("fold" : PySem.Str)] [(J.Slot.v (.ref p0_0)), (J.Slot.val (s14.1 : Int)), (J.Slot.val (s14.2.1 : Int)), (J.Slot.val (a0_3 : Int))])), (p0_0, (J.Cel.lst ((s14.2.2.1 : List Int).map J.Slot.val))), (p3, (J.Cel.lst ((s6.2.2.2 : List Int).map J.Slot.val)))]⟩ : J.Stt)) (s' := (x10.2.1, (x10.2.2.1, (x10.2.2.2, s11)))) 3 () (.keep (.keep (.keep (.keep (.keep (.keep (.keep (.keep .nil)))))))) rfl rfl
    obtain ⟨x18, hx18, h⟩ := J.bndE h
    refine J.js_expr (J.je_appG (xs := s6.2.2.2) (t := (s14.2.2.2 : Int)) 2 (J.je_var 4 rfl) rfl (J.je_var 7 rfl) rfl hx18) ?_
    have h9 := Option.some.inj h
    subst h9
    exact J.js_nil fun T tv σ H g => ⟨(), J.le_fgt (sl := [(J.Slot.v (.ref p0)), (J.Slot.val (a1 : Int)), (J.Slot.val (a2 : Int)), (J.Slot.val (x2 : Int)), (J.Slot.v (.ref p3)), J.Slot.any, J.Slot.any, J.Slot.any]) (cs := [(p0, (J.Cel.dk [Sum.inr ("great" : PySem.Str), Sum.inr ("left" : PySem.Str), Sum.inr ("turn" : PySem.Str), Sum.inr ("fold" : PySem.Str)] [(J.Slot.v (.ref p0_0)), (J.Slot.val ((s14.1, (s14.2.1, (s14.2.2.1, x18))).1 : Int)), (J.Slot.val ((s14.1, (s14.2.1, (s14.2.2.1, x18))).2.1 : Int)), (J.Slot.val (a0_3 : Int))])), (p0_0, (J.Cel.lst (((s14.1, (s14.2.1, (s14.2.2.1, x18))).2.2.1 : List Int).map J.Slot.val))), (p3, (J.Cel.lst (((s14.1, (s14.2.1, (s14.2.2.1, x18))).2.2.2 : List Int).map J.Slot.val)))]) 3 (.keep (.keep (.keep (.keep (.keep (.drop (.drop (.drop .nil)))))))) rfl _ _ _ _ g⟩
  change J.JS _ _ (⟨[(J.Slot.v (.ref p0)), (J.Slot.val (a1 : Int)), (J.Slot.val (a2 : Int)), (J.Slot.val (x2 : Int)), (J.Slot.v (.ref p3)), J.Slot.any, J.Slot.any, J.Slot.any], [(p0, (J.Cel.dk [Sum.inr ("great" : PySem.Str), Sum.inr ("left" : PySem.Str), Sum.inr ("turn" : PySem.Str), Sum.inr ("fold" : PySem.Str)] [(J.Slot.v (.ref p0_0)), (J.Slot.val (s19.1 : Int)), (J.Slot.val (s19.2.1 : Int)), (J.Slot.val (a0_3 : Int))])), (p0_0, (J.Cel.lst ((s19.2.2.1 : List Int).map J.Slot.val))), (p3, (J.Cel.lst ((s19.2.2.2 : List Int).map J.Slot.val)))]⟩ : J.Stt) _ _
  have h9 := Option.some.inj h
  subst h9
  exact J.js_ret (J.je_own 2 (J.je_var 4 rfl) rfl) fun v H o => J.Out.take 2 o
structure G_law_traces where
  p0 : PySem.Addr
  p0_0 : PySem.Addr
  a1 : Int
  a2 : Int
  a0_0 : (List Int)
  a0_1 : Int
  a0_2 : Int
  a0_3 : Int
  out : ((List (List Int)) × (Int × (Int × (List Int))))
abbrev R_law_traces (r : ((List (List Int)) × (Int × (Int × (List Int))))) : J.Slot := (J.Slot.own (J.Cel.lst ((r.1 : List (List Int)).map J.Slot.val)))
abbrev C_law_traces (p0 : PySem.Addr) (p0_0 : PySem.Addr) (a1 : Int) (a2 : Int) (a0_0 : (List Int)) (a0_1 : Int) (a0_2 : Int) (a0_3 : Int) (r : ((List (List Int)) × (Int × (Int × (List Int))))) : List (PySem.Addr × J.Cel) := [(p0, (J.Cel.dk [Sum.inr ("great" : PySem.Str), Sum.inr ("left" : PySem.Str), Sum.inr ("turn" : PySem.Str), Sum.inr ("fold" : PySem.Str)] [(J.Slot.v (.ref p0_0)), (J.Slot.val (r.2.1 : Int)), (J.Slot.val (r.2.2.1 : Int)), (J.Slot.val (a0_3 : Int))])), (p0_0, (J.Cel.lst ((r.2.2.2 : List Int).map J.Slot.val)))]
abbrev A_law_traces (p0 : PySem.Addr) (p0_0 : PySem.Addr) (a1 : Int) (a2 : Int) (a0_0 : (List Int)) (a0_1 : Int) (a0_2 : Int) (a0_3 : Int) : List J.Slot := [(J.Slot.v (.ref p0)), (J.Slot.val (a1 : Int)), (J.Slot.val (a2 : Int))]
abbrev D_law_traces (p0 : PySem.Addr) (p0_0 : PySem.Addr) (a1 : Int) (a2 : Int) (a0_0 : (List Int)) (a0_1 : Int) (a0_2 : Int) (a0_3 : Int) : List (PySem.Addr × J.Cel) := [(p0, (J.Cel.dk [Sum.inr ("great" : PySem.Str), Sum.inr ("left" : PySem.Str), Sum.inr ("turn" : PySem.Str), Sum.inr ("fold" : PySem.Str)] [(J.Slot.v (.ref p0_0)), (J.Slot.val (a0_1 : Int)), (J.Slot.val (a0_2 : Int)), (J.Slot.val (a0_3 : Int))])), (p0_0, (J.Cel.lst ((a0_0 : List Int).map J.Slot.val)))]
def F_law_traces (K : PySem.W.Frag) : J.FS G_law_traces where
  pre := fun g => m_law_traces g.a1 g.a2 g.a0_0 g.a0_1 g.a0_2 g.a0_3 = some g.out
  preG := fun _ _ => True
  args := fun g => A_law_traces g.p0 g.p0_0 g.a1 g.a2 g.a0_0 g.a0_1 g.a0_2 g.a0_3
  cells := fun g => D_law_traces g.p0 g.p0_0 g.a1 g.a2 g.a0_0 g.a0_1 g.a0_2 g.a0_3
  res := fun g => R_law_traces g.out
  cells' := fun g => C_law_traces g.p0 g.p0_0 g.a1 g.a2 g.a0_0 g.a0_1 g.a0_2 g.a0_3 g.out
theorem ok_law_traces (W : Wd K mg) : FnOk P w K mg base CX0 3 W.a__law_traces W.d__law_traces ["bag", "most", "long"] (F_law_traces K).sp := by
  refine J.fn_okD (F_law_traces K) W.F__law_traces sc__law_traces (fun g => rfl) (fun g => by intro s hs; simp only [F_law_traces, List.mem_cons, List.not_mem_nil, or_false] at hs; rcases hs with rfl | rfl | rfl <;> first | rfl | exact J.xsl_plain) (fun cdv A outer s H E hr B g h hG => ?_)
  have hN := (sc__law_traces).nd
  obtain ⟨p0, p0_0, a1, a2, a0_0, a0_1, a0_2, a0_3, r0⟩ := g
  change m_law_traces a1 a2 a0_0 a0_1 a0_2 a0_3 = some r0 at h
  unfold m_law_traces at h
  change J.JS _ B (⟨[(J.Slot.v (.ref p0)), (J.Slot.val (a1 : Int)), (J.Slot.val (a2 : Int)), J.Slot.any], [(p0, (J.Cel.dk [Sum.inr ("great" : PySem.Str), Sum.inr ("left" : PySem.Str), Sum.inr ("turn" : PySem.Str), Sum.inr ("fold" : PySem.Str)] [(J.Slot.v (.ref p0_0)), (J.Slot.val (a0_1 : Int)), (J.Slot.val (a0_2 : Int)), (J.Slot.val (a0_3 : Int))])), (p0_0, (J.Cel.lst ((a0_0 : List Int).map J.Slot.val)))]⟩ : J.Stt) _ (J.fend B (F_law_traces K) ⟨p0, p0_0, a1, a2, a0_0, a0_1, a0_2, a0_3, r0⟩)
  obtain ⟨x1, hx1, h⟩ := J.bndE h
  obtain ⟨x2, hx2, h⟩ := J.bndE h
  obtain ⟨x8, hx8, h⟩ := J.bndE h
  have h9 := Option.some.inj h
  subst h9
  exact J.js_ret (J.je_lc (f := m_law_traces_c0 a2 a0_3) (el := J.Slot.val) (Sf := fun (s3 : (Int × (Int × (List Int)))) => (⟨[(J.Slot.v (.ref p0)), (J.Slot.val (a1 : Int)), (J.Slot.val (a2 : Int)), J.Slot.any], [(p0, (J.Cel.dk [Sum.inr ("great" : PySem.Str), Sum.inr ("left" : PySem.Str), Sum.inr ("turn" : PySem.Str), Sum.inr ("fold" : PySem.Str)] [(J.Slot.v (.ref p0_0)), (J.Slot.val (s3.1 : Int)), (J.Slot.val (s3.2.1 : Int)), (J.Slot.val (a0_3 : Int))])), (p0_0, (J.Cel.lst ((s3.2.2 : List Int).map J.Slot.val)))]⟩ : J.Stt)) (Sb := fun (s3 : (Int × (Int × (List Int)))) (x5 : Int) => (⟨[(J.Slot.v (.ref p0)), (J.Slot.val (a1 : Int)), (J.Slot.val (a2 : Int)), (J.Slot.val (x5 : Int))], [(p0, (J.Cel.dk [Sum.inr ("great" : PySem.Str), Sum.inr ("left" : PySem.Str), Sum.inr ("turn" : PySem.Str), Sum.inr ("fold" : PySem.Str)] [(J.Slot.v (.ref p0_0)), (J.Slot.val (s3.1 : Int)), (J.Slot.val (s3.2.1 : Int)), (J.Slot.val (a0_3 : Int))])), (p0_0, (J.Cel.lst ((s3.2.2 : List Int).map J.Slot.val)))]⟩ : J.Stt)) (s0 := (x1.2.1, (x1.2.2.1, x1.2.2.2))) (own := [(("k" : PySem.Str), 3)]) (ws := [3]) (J.lcM_of hx8).2 (J.lcM_of hx8).1 hN (L2.blkOk_by (N := ["bag", "most", "long", "k"]) (sc := defScope s__law_traces) (by decide +kernel)) (J.ji_rngG W.l_range (J.je_add J.je_int (J.je_call (f := F_law_draw K) (ok_law_draw W) hr (by decide) W.g__law_draw W.F__law_draw.kp W.b__law_draw (J.ja_cons (J.je_var 0 rfl) (J.ja_cons (J.je_var 1 rfl) J.ja_nil)) (g := (⟨p0, p0_0, a1, a0_0, a0_1, a0_2, a0_3, x1⟩ : G_law_draw)) hx1 rfl (.cons 0 rfl (by nofun) (.cons 1 rfl (by nofun) .nil)) (.cons 0 rfl (.cons 1 rfl .nil)) (hG := fun G e => trivial))) hx2) (J.le_fgt 2 (.keep (.keep (.keep (.drop .nil)))) rfl) (fun _ => trivial) (fun _ => J.any_at rfl) (by decide) (fun s3 x5 => fun s1 H1 C1 cl1 fp1 =>  J.inJG hN fun hN => (J.jg_name 3 (hN := hN))) (fun s3 x5 o sZ _ h => by
      unfold m_law_traces_c0 at h
      obtain ⟨x6, hx6, h⟩ := J.bndE h
      obtain ⟨x7, hx7, h⟩ := J.bndE h
      obtain ⟨h8, h9⟩ := Prod.mk.inj (Option.some.inj h)
      subst h8
      subst h9
      exact ⟨true, _, (fun s1 H1 C1 cl1 fp1 =>  J.jts_nil), fun _ => ⟨_, _, rfl, (fun s1 H1 C1 cl1 fp1 =>  J.inJE hr hN fun hr hN => (J.je_frL (J.je_call (f := F_law_trace K) (ok_law_trace W) hr (by decide) W.g__law_trace W.F__law_trace.kp W.b__law_trace (J.ja_cons (J.je_var 0 rfl) (J.ja_cons (J.je_var 2 rfl) (J.ja_cons (J.je_add J.je_int (J.je_call (f := F_law_draw K) (ok_law_draw W) hr (by decide) W.g__law_draw W.F__law_draw.kp W.b__law_draw (J.ja_cons (J.je_var 0 rfl) (J.ja_cons J.je_int J.ja_nil)) (g := (⟨p0, p0_0, 6, s3.2.2, s3.1, s3.2.1, a0_3, x6⟩ : G_law_draw)) hx6 rfl (.cons 0 rfl (by nofun) (.cons 1 rfl (by nofun) .nil)) (.cons 0 rfl (.cons 1 rfl .nil)) (hG := fun G e => trivial))) J.ja_nil))) (g := (⟨p0, p0_0, a2, (1 + x6.1), x6.2.2.2, x6.2.1, x6.2.2.1, a0_3, x7⟩ : G_law_trace)) hx7 rfl (.cons 0 rfl (by nofun) (.cons 1 rfl (by nofun) .nil)) (.cons 0 rfl (.cons 1 rfl .nil)) (hG := fun G e => trivial)))), (J.le_fgt 2 (.keep (.keep (.keep (.drop .nil)))) rfl)⟩, nofun⟩)) fun v H o => J.Out.take 2 o
structure G_law_last where
  a0 : (List Int)
  a1 : Int
  out : Int
abbrev R_law_last (r : Int) : J.Slot := (J.Slot.val (r : Int))
abbrev C_law_last (a0 : (List Int)) (a1 : Int) (r : Int) : List (PySem.Addr × J.Cel) := []
abbrev A_law_last (a0 : (List Int)) (a1 : Int) : List J.Slot := [(J.Slot.val (a0 : (List Int))), (J.Slot.val (a1 : Int))]
abbrev D_law_last (a0 : (List Int)) (a1 : Int) : List (PySem.Addr × J.Cel) := []
def F_law_last (K : PySem.W.Frag) : J.FS G_law_last where
  pre := fun g => m_law_last g.a0 g.a1 = some g.out
  preG := fun _ _ => True
  args := fun g => A_law_last g.a0 g.a1
  cells := fun g => D_law_last g.a0 g.a1
  res := fun g => R_law_last g.out
  cells' := fun g => C_law_last g.a0 g.a1 g.out
theorem ok_law_last (W : Wd K mg) : FnOk P w K mg base CX0 1 W.a__law_last W.d__law_last ["trace", "room_of"] (F_law_last K).sp := by
  refine J.fn_okD (F_law_last K) W.F__law_last sc__law_last (fun g => rfl) (fun g => by intro s hs; simp only [F_law_last, List.mem_cons, List.not_mem_nil, or_false] at hs; rcases hs with rfl | rfl <;> first | rfl | exact J.xsl_plain) (fun cdv A outer s H E hr B g h hG => ?_)
  have hN := (sc__law_last).nd
  obtain ⟨a0, a1, r0⟩ := g
  change m_law_last a0 a1 = some r0 at h
  unfold m_law_last at h
  change J.JS _ B (⟨[(J.Slot.val (a0 : (List Int))), (J.Slot.val (a1 : Int)), J.Slot.any, J.Slot.any, J.Slot.any], []⟩ : J.Stt) _ (J.fend B (F_law_last K) ⟨a0, a1, r0⟩)
  refine J.js_parG (hN := hN) 3 4 (J.je_lstv (xs := ([] : List Int)) J.ja_nil) J.je_int fun p1 p2 => ?_
  change J.JS _ _ (⟨[(J.Slot.val (a0 : (List Int))), (J.Slot.val (a1 : Int)), J.Slot.any, (J.Slot.v (.ref p1)), (J.Slot.val (0 : Int))], [(p1, (J.Cel.lst ((([] : List Int) : List Int).map J.Slot.val)))]⟩ : J.Stt) _ _
  obtain ⟨s12, hs12, h⟩ := J.bndE h
  refine J.js_forE (π := PySem.Addr) (f := m_law_last_b0 a1) (Sf := fun (q4 : PySem.Addr) (s3 : (Int × (List Int))) => (⟨[(J.Slot.val (a0 : (List Int))), (J.Slot.val (a1 : Int)), J.Slot.any, (J.Slot.v (.ref q4)), (J.Slot.val (s3.1 : Int))], [(q4, (J.Cel.lst ((s3.2 : List Int).map J.Slot.val)))]⟩ : J.Stt)) (Sb := fun (q4 : PySem.Addr) (s3 : (Int × (List Int))) (x5 : Int) => (⟨[(J.Slot.val (a0 : (List Int))), (J.Slot.val (a1 : Int)), (J.Slot.val (x5 : Int)), (J.Slot.v (.ref q4)), (J.Slot.val (s3.1 : Int))], [(q4, (J.Cel.lst ((s3.2 : List Int).map J.Slot.val)))]⟩ : J.Stt)) hs12 (J.ji_val (xs := a0) (J.je_var 0 rfl)) (fun _ _ _ _ g => ⟨p1, J.le_fgt (sl := [(J.Slot.val (a0 : (List Int))), (J.Slot.val (a1 : Int)), J.Slot.any, (J.Slot.v (.ref p1)), (J.Slot.val ((0, ([] : List Int)).1 : Int))]) (cs := [(p1, (J.Cel.lst (((0, ([] : List Int)).2 : List Int).map J.Slot.val)))]) 1 (.keep (.keep (.drop (.keep (.keep .nil))))) rfl _ _ _ _ g⟩) (fun _ _ => trivial) (fun q4 s3 x5 => (J.jg_name 2 (hN := hN))) (fun q4 s3 x5 sY _ h => ?_) (fun q4 => ?_)
  · unfold m_law_last_b0 at h
    change J.JS _ _ (⟨[(J.Slot.val (a0 : (List Int))), (J.Slot.val (a1 : Int)), (J.Slot.val (x5 : Int)), (J.Slot.v (.ref q4)), (J.Slot.val (s3.1 : Int))], [(q4, (J.Cel.lst ((s3.2 : List Int).map J.Slot.val)))]⟩ : J.Stt) _ _
    obtain ⟨s6, hs6, h⟩ := J.bndE h
    refine J.js_ifE (π := PySem.Addr) (Sq := fun (q7 : PySem.Addr) => (⟨[(J.Slot.val (a0 : (List Int))), (J.Slot.val (a1 : Int)), (J.Slot.val (x5 : Int)), (J.Slot.v (.ref q7)), (J.Slot.val (s6.1 : Int))], [(q7, (J.Cel.lst ((s6.2 : List Int).map J.Slot.val)))]⟩ : J.Stt)) (J.jt_in (t := (x5 : Int)) (xs := s3.2) hr (J.je_var 2 rfl) (J.je_var 3 rfl) J.dv_val (J.lv_cell' 0 rfl)) (fun hp => ?_) (fun hp => ?_) (fun q7 => ?_)
    · have h := J.ifT hp hs6
      obtain ⟨x8, hx8, h⟩ := J.bndE h
      refine J.js_expr (J.je_remG (xs := s3.2) (t := (x5 : Int)) 0 hr (J.je_var 3 rfl) rfl (J.je_var 2 rfl) rfl hx8) ?_
      have h9 := Option.some.inj h
      subst h9
      exact J.js_loopEnd (Sq := fun (q7 : PySem.Addr) (s6 : (Int × (List Int))) => (⟨[(J.Slot.val (a0 : (List Int))), (J.Slot.val (a1 : Int)), (J.Slot.val (x5 : Int)), (J.Slot.v (.ref q7)), (J.Slot.val (s6.1 : Int))], [(q7, (J.Cel.lst ((s6.2 : List Int).map J.Slot.val)))]⟩ : J.Stt)) (s' := (s3.1, x8)) 1 q4 (.keep (.keep (.keep (.keep (.keep .nil))))) rfl rfl
    · have h := J.ifF hp hs6
      refine J.js_augI (hN := hN) 4 L2.ip_add rfl J.je_int ?_
      change J.JS _ _ (⟨[(J.Slot.val (a0 : (List Int))), (J.Slot.val (a1 : Int)), (J.Slot.val (x5 : Int)), (J.Slot.v (.ref q4)), (J.Slot.val ((s3.1 + 1) : Int))], [(q4, (J.Cel.lst ((s3.2 : List Int).map J.Slot.val)))]⟩ : J.Stt) _ _
      refine J.js_new (hN := hN) 3 (J.je_slcv (xs := s3.2) (J.je_var 3 rfl) (J.jo_some (J.je_max2 W.l_max J.je_int (J.je_sub (J.je_add (J.je_len (n := "len") (xs := s3.2) W.l_len (J.je_var 3 rfl) (J.lv_cell' 0 rfl)) J.je_int) (J.je_var 1 rfl)))) J.jo_none (J.lv_cell' 0 rfl)) fun p9 => ?_
      have h9 := Option.some.inj h
      subst h9
      refine J.js_mv 0 1 rfl rfl ?_
      exact J.js_loopEnd (Sq := fun (q7 : PySem.Addr) (s6 : (Int × (List Int))) => (⟨[(J.Slot.val (a0 : (List Int))), (J.Slot.val (a1 : Int)), (J.Slot.val (x5 : Int)), (J.Slot.v (.ref q7)), (J.Slot.val (s6.1 : Int))], [(q7, (J.Cel.lst ((s6.2 : List Int).map J.Slot.val)))]⟩ : J.Stt)) (s' := ((s3.1 + 1), (J.slc s3.2 (some (if ((((s3.2).length : Int) + 1) - a1) > 0 then ((((s3.2).length : Int) + 1) - a1) else 0)) none))) 1 p9 (.keep (.keep (.keep (.keep (.keep .nil))))) rfl rfl
    obtain ⟨x10, hx10, h⟩ := J.bndE h
    refine J.js_new (hN := hN) 3 (J.je_catG (xs := s6.2) (ys := ([x5] : List Int)) (J.je_var 3 rfl) (J.je_lstv (xs := ([x5] : List Int)) (J.ja_cons (J.je_var 2 rfl) J.ja_nil)) (J.lh_cell 0 rfl) J.lh_own hx10) fun p11 => ?_
    have h9 := Option.some.inj h
    subst h9
    refine J.js_mv 0 1 rfl rfl ?_
    exact J.js_nil fun T tv σ H g => ⟨p11, J.le_fgt (sl := [(J.Slot.val (a0 : (List Int))), (J.Slot.val (a1 : Int)), J.Slot.any, (J.Slot.v (.ref p11)), (J.Slot.val ((s6.1, x10).1 : Int))]) (cs := [(p11, (J.Cel.lst (((s6.1, x10).2 : List Int).map J.Slot.val)))]) 1 (.keep (.keep (.drop (.keep (.keep .nil))))) rfl _ _ _ _ g⟩
  change J.JS _ _ (⟨[(J.Slot.val (a0 : (List Int))), (J.Slot.val (a1 : Int)), J.Slot.any, (J.Slot.v (.ref q4)), (J.Slot.val (s12.1 : Int))], [(q4, (J.Cel.lst ((s12.2 : List Int).map J.Slot.val)))]⟩ : J.Stt) _ _
  have h9 := Option.some.inj h
  subst h9
  exact J.js_ret (J.je_var 4 rfl) fun v H o => J.Out.take 0 o
structure G_law_tables where
  a0 : (List (List Int))
  a1 : Int
  out : (List (List Int))
abbrev R_law_tables (r : (List (List Int))) : J.Slot := (J.Slot.own (J.Cel.lst ((r : List (List Int)).map J.Slot.val)))
abbrev C_law_tables (a0 : (List (List Int))) (a1 : Int) (r : (List (List Int))) : List (PySem.Addr × J.Cel) := []
abbrev A_law_tables (a0 : (List (List Int))) (a1 : Int) : List J.Slot := [(J.Slot.val (a0 : (List (List Int)))), (J.Slot.val (a1 : Int))]
abbrev D_law_tables (a0 : (List (List Int))) (a1 : Int) : List (PySem.Addr × J.Cel) := []
def F_law_tables (K : PySem.W.Frag) : J.FS G_law_tables where
  pre := fun g => m_law_tables g.a0 g.a1 = some g.out
  preG := fun _ _ => True
  args := fun g => A_law_tables g.a0 g.a1
  cells := fun g => D_law_tables g.a0 g.a1
  res := fun g => R_law_tables g.out
  cells' := fun g => C_law_tables g.a0 g.a1 g.out
theorem ok_law_tables (W : Wd K mg) : FnOk P w K mg base CX0 2 W.a__law_tables W.d__law_tables ["lot", "most"] (F_law_tables K).sp := by
  refine J.fn_okD (F_law_tables K) W.F__law_tables sc__law_tables (fun g => rfl) (fun g => by intro s hs; simp only [F_law_tables, List.mem_cons, List.not_mem_nil, or_false] at hs; rcases hs with rfl | rfl <;> first | rfl | exact J.xsl_plain) (fun cdv A outer s H E hr B g h hG => ?_)
  have hN := (sc__law_tables).nd
  obtain ⟨a0, a1, r0⟩ := g
  change m_law_tables a0 a1 = some r0 at h
  unfold m_law_tables at h
  change J.JS _ B (⟨[(J.Slot.val (a0 : (List (List Int)))), (J.Slot.val (a1 : Int)), J.Slot.any, J.Slot.any], []⟩ : J.Stt) _ (J.fend B (F_law_tables K) ⟨a0, a1, r0⟩)
  obtain ⟨x10, hx10, h⟩ := J.bndE h
  have h9 := Option.some.inj h
  subst h9
  exact J.js_ret (J.je_lc (f := m_law_tables_c1 a1) (el := J.Slot.val) (Sf := fun (s1 : Unit) => (⟨[(J.Slot.val (a0 : (List (List Int)))), (J.Slot.val (a1 : Int)), J.Slot.any, J.Slot.any], []⟩ : J.Stt)) (Sb := fun (s1 : Unit) (x3 : (List Int)) => (⟨[(J.Slot.val (a0 : (List (List Int)))), (J.Slot.val (a1 : Int)), (J.Slot.val (x3 : (List Int))), J.Slot.any], []⟩ : J.Stt)) (s0 := ()) (own := [(("trace" : PySem.Str), 2)]) (ws := [2]) (J.lcM_of hx10).2 (J.lcM_of hx10).1 hN (L2.blkOk_by (N := ["lot", "most", "trace", "room_of"]) (sc := defScope s__law_tables) (by decide +kernel)) (J.ji_val (xs := a0) (J.je_var 0 rfl)) (J.le_fgt 0 (.keep (.keep (.drop (.drop .nil)))) rfl) (fun _ => trivial) (fun _ => J.any_at rfl) (by decide) (fun s1 x3 => fun s1 H1 C1 cl1 fp1 =>  J.inJG hN fun hN => (J.jg_name 2 (hN := hN))) (fun s1 x3 o sZ _ h => by
      unfold m_law_tables_c1 at h
      obtain ⟨x4, hx4, h⟩ := J.bndE h
      obtain ⟨x9, hx9, h⟩ := J.bndE h
      obtain ⟨h8, h9⟩ := Prod.mk.inj (Option.some.inj h)
      subst h8
      subst h9
      exact ⟨true, _, (fun s1 H1 C1 cl1 fp1 =>  J.jts_nil), fun _ => ⟨_, _, rfl, (fun s1 H1 C1 cl1 fp1 =>  J.inJE hr hN fun hr hN => (J.je_frL (J.je_lc (f := m_law_tables_c0 x3) (el := J.Slot.val) (Sf := fun (s5 : Unit) => (⟨[(J.Slot.val (a0 : (List (List Int)))), (J.Slot.val (a1 : Int)), (J.Slot.val (x3 : (List Int))), J.Slot.any], []⟩ : J.Stt)) (Sb := fun (s5 : Unit) (x7 : Int) => (⟨[(J.Slot.val (a0 : (List (List Int)))), (J.Slot.val (a1 : Int)), (J.Slot.val (x3 : (List Int))), (J.Slot.val (x7 : Int))], []⟩ : J.Stt)) (s0 := ()) (own := [(("room_of" : PySem.Str), 3)]) (ws := [3]) (J.lcM_of hx9).2 (J.lcM_of hx9).1 hN (L2.blkOk_by (by kernel_rfl)) (J.ji_rngG2 W.l_range J.je_int (J.je_add (J.je_var 1 rfl) J.je_int) hx4) (J.le_fgt 0 (.keep (.keep (.keep (.drop .nil)))) rfl) (fun _ => trivial) (fun _ => J.any_at rfl) (by decide) (fun s5 x7 => fun s1 H1 C1 cl1 fp1 =>  J.inJG hN fun hN => (J.jg_name 3 (hN := hN))) (fun s5 x7 o sZ _ h => by
      unfold m_law_tables_c0 at h
      obtain ⟨x8, hx8, h⟩ := J.bndE h
      obtain ⟨h8, h9⟩ := Prod.mk.inj (Option.some.inj h)
      subst h8
      subst h9
      exact ⟨true, _, (fun s1 H1 C1 cl1 fp1 =>  J.jts_nil), fun _ => ⟨_, _, rfl, (fun s1 H1 C1 cl1 fp1 =>  J.inJE hr hN fun hr hN => (J.je_call (f := F_law_last K) (ok_law_last W) hr (by decide) W.g__law_last W.F__law_last.kp W.b__law_last (J.ja_cons (J.je_var 2 rfl) (J.ja_cons (J.je_var 3 rfl) J.ja_nil)) (g := (⟨x3, x7, x8⟩ : G_law_last)) hx8 rfl .nil .nil (hG := fun G e => trivial))), (J.le_fgt 0 (.keep (.keep (.keep (.drop .nil)))) rfl)⟩, nofun⟩)))), (J.le_fgt 0 (.keep (.keep (.drop (.drop .nil)))) rfl)⟩, nofun⟩)) fun v H o => J.Out.take 0 o
structure G_law_lists where
  a0 : Int
  a1 : Int
  out : (List (List Int))
abbrev R_law_lists (r : (List (List Int))) : J.Slot := (J.Slot.val (r : (List (List Int))))
abbrev C_law_lists (a0 : Int) (a1 : Int) (r : (List (List Int))) : List (PySem.Addr × J.Cel) := []
abbrev A_law_lists (a0 : Int) (a1 : Int) : List J.Slot := [(J.Slot.val (a0 : Int)), (J.Slot.val (a1 : Int))]
abbrev D_law_lists (a0 : Int) (a1 : Int) : List (PySem.Addr × J.Cel) := []
def F_law_lists (K : PySem.W.Frag) : J.FS G_law_lists where
  pre := fun g => m_law_lists g.a0 g.a1 = some g.out
  preG := fun _ _ => True
  args := fun g => A_law_lists g.a0 g.a1
  cells := fun g => D_law_lists g.a0 g.a1
  res := fun g => R_law_lists g.out
  cells' := fun g => C_law_lists g.a0 g.a1 g.out
theorem ok_law_lists (W : Wd K mg) : FnOk P w K mg base CX0 1 W.a__law_lists W.d__law_lists ["many", "left"] (F_law_lists K).sp := by
  refine J.fn_okD (F_law_lists K) W.F__law_lists sc__law_lists (fun g => rfl) (fun g => by intro s hs; simp only [F_law_lists, List.mem_cons, List.not_mem_nil, or_false] at hs; rcases hs with rfl | rfl <;> first | rfl | exact J.xsl_plain) (fun cdv A outer s H E hr B g h hG => ?_)
  have hN := (sc__law_lists).nd
  obtain ⟨a0, a1, r0⟩ := g
  change m_law_lists a0 a1 = some r0 at h
  unfold m_law_lists at h
  change J.JS _ B (⟨[(J.Slot.val (a0 : Int)), (J.Slot.val (a1 : Int)), J.Slot.any, J.Slot.any, J.Slot.any, J.Slot.any, J.Slot.any, J.Slot.any], []⟩ : J.Stt) _ (J.fend B (F_law_lists K) ⟨a0, a1, r0⟩)
  obtain ⟨x1, hx1, h⟩ := J.bndE h
  refine J.js_set (hN := hN) 2 (J.je_let (J.je_frL (J.je_lstv (xs := ([([] : List Int)] : List (List Int))) (J.ja_cons (J.je_frL (J.je_lstv (xs := ([] : List Int)) J.ja_nil)) J.ja_nil))) hx1) ?_
  obtain ⟨x2, hx2, h⟩ := J.bndE h
  obtain ⟨s19, hs19, h⟩ := J.bndE h
  refine J.js_forE (π := Unit) (f := m_law_lists_b2 a0 a1) (Sf := fun (q4 : Unit) (s3 : (List (List Int))) => (⟨[(J.Slot.val (a0 : Int)), (J.Slot.val (a1 : Int)), (J.Slot.val (s3 : (List (List Int)))), J.Slot.any, J.Slot.any, J.Slot.any, J.Slot.any, J.Slot.any], []⟩ : J.Stt)) (Sb := fun (q4 : Unit) (s3 : (List (List Int))) (x5 : Int) => (⟨[(J.Slot.val (a0 : Int)), (J.Slot.val (a1 : Int)), (J.Slot.val (s3 : (List (List Int)))), (J.Slot.val (x5 : Int)), J.Slot.any, J.Slot.any, J.Slot.any, J.Slot.any], []⟩ : J.Stt)) hs19 (J.ji_rngG W.l_range (J.je_var 0 rfl) hx2) (fun _ _ _ _ g => ⟨(), J.le_fgt (sl := [(J.Slot.val (a0 : Int)), (J.Slot.val (a1 : Int)), (J.Slot.val (x1 : (List (List Int)))), J.Slot.any, J.Slot.any, J.Slot.any, J.Slot.any, J.Slot.any]) (cs := []) 0 (.keep (.keep (.keep (.drop (.drop (.drop (.drop (.drop .nil)))))))) rfl _ _ _ _ g⟩) (fun _ _ => trivial) (fun q4 s3 x5 => (J.jg_name 3 (hN := hN))) (fun q4 s3 x5 sY _ h => ?_) (fun q4 => ?_)
  · unfold m_law_lists_b2 at h
    change J.JS _ _ (⟨[(J.Slot.val (a0 : Int)), (J.Slot.val (a1 : Int)), (J.Slot.val (s3 : (List (List Int)))), (J.Slot.val (x5 : Int)), J.Slot.any, J.Slot.any, J.Slot.any, J.Slot.any], []⟩ : J.Stt) _ _
    refine J.js_new (hN := hN) 4 (J.je_lstv (xs := ([] : List (List Int))) J.ja_nil) fun p6 => ?_
    obtain ⟨s18, hs18, h⟩ := J.bndE h
    refine J.js_forE (π := Unit) (f := m_law_lists_b1 a0 a1 x5) (Sf := fun (q8 : Unit) (s7 : (List (List Int))) => (⟨[(J.Slot.val (a0 : Int)), (J.Slot.val (a1 : Int)), (J.Slot.val (s3 : (List (List Int)))), (J.Slot.val (x5 : Int)), (J.Slot.v (.ref p6)), J.Slot.any, J.Slot.any, J.Slot.any], [(p6, (J.Cel.lst ((s7 : List (List Int)).map J.Slot.val)))]⟩ : J.Stt)) (Sb := fun (q8 : Unit) (s7 : (List (List Int))) (x9 : (List Int)) => (⟨[(J.Slot.val (a0 : Int)), (J.Slot.val (a1 : Int)), (J.Slot.val (s3 : (List (List Int)))), (J.Slot.val (x5 : Int)), (J.Slot.v (.ref p6)), (J.Slot.val (x9 : (List Int))), J.Slot.any, J.Slot.any], [(p6, (J.Cel.lst ((s7 : List (List Int)).map J.Slot.val)))]⟩ : J.Stt)) hs18 (J.ji_val (xs := s3) (J.je_var 2 rfl)) (fun _ _ _ _ g => ⟨(), J.le_fgt (sl := [(J.Slot.val (a0 : Int)), (J.Slot.val (a1 : Int)), (J.Slot.val (s3 : (List (List Int)))), (J.Slot.val (x5 : Int)), (J.Slot.v (.ref p6)), J.Slot.any, J.Slot.any, J.Slot.any]) (cs := [(p6, (J.Cel.lst ((([] : List (List Int)) : List (List Int)).map J.Slot.val)))]) 1 (.keep (.keep (.keep (.keep (.keep (.drop (.drop (.drop .nil)))))))) rfl _ _ _ _ g⟩) (fun _ _ => trivial) (fun q8 s7 x9 => (J.jg_name 5 (hN := hN))) (fun q8 s7 x9 sY _ h => ?_) (fun q8 => ?_)
    · unfold m_law_lists_b1 at h
      change J.JS _ _ (⟨[(J.Slot.val (a0 : Int)), (J.Slot.val (a1 : Int)), (J.Slot.val (s3 : (List (List Int)))), (J.Slot.val (x5 : Int)), (J.Slot.v (.ref p6)), (J.Slot.val (x9 : (List Int))), J.Slot.any, J.Slot.any], [(p6, (J.Cel.lst ((s7 : List (List Int)).map J.Slot.val)))]⟩ : J.Stt) _ _
      obtain ⟨x10, hx10, h⟩ := J.bndE h
      refine J.js_set (hN := hN) 6 (J.je_let (J.je_sub (J.je_sub (J.je_var 1 rfl) (J.je_sum (xs := x9) W.l_sum (J.je_var 5 rfl) J.lv_val)) (J.je_sub (J.je_sub (J.je_var 0 rfl) (J.je_var 3 rfl)) J.je_int)) hx10) ?_
      obtain ⟨x11, hx11, h⟩ := J.bndE h
      obtain ⟨x16, hx16, h⟩ := J.bndE h
      obtain ⟨x17, hx17, h⟩ := J.bndE h
      refine J.js_expr (J.je_extG (xs := s7) (ys := x16.1) 0 (J.je_var 4 rfl) rfl (J.je_lc (f := m_law_lists_c0 x9) (el := J.Slot.val) (Sf := fun (s12 : Unit) => (⟨[(J.Slot.val (a0 : Int)), (J.Slot.val (a1 : Int)), (J.Slot.val (s3 : (List (List Int)))), (J.Slot.val (x5 : Int)), (J.Slot.v (.ref p6)), (J.Slot.val (x9 : (List Int))), (J.Slot.val (x10 : Int)), J.Slot.any], [(p6, (J.Cel.lst ((s7 : List (List Int)).map J.Slot.val)))]⟩ : J.Stt)) (Sb := fun (s12 : Unit) (x14 : Int) => (⟨[(J.Slot.val (a0 : Int)), (J.Slot.val (a1 : Int)), (J.Slot.val (s3 : (List (List Int)))), (J.Slot.val (x5 : Int)), (J.Slot.v (.ref p6)), (J.Slot.val (x9 : (List Int))), (J.Slot.val (x10 : Int)), (J.Slot.val (x14 : Int))], [(p6, (J.Cel.lst ((s7 : List (List Int)).map J.Slot.val)))]⟩ : J.Stt)) (s0 := ()) (own := [(("room_of" : PySem.Str), 7)]) (ws := [7]) (J.lcM_of hx16).2 (J.lcM_of hx16).1 hN (L2.blkOk_by (N := ["many", "left", "found", "k", "more", "one", "spare", "room_of"]) (sc := defScope s__law_lists) (by decide +kernel)) (J.ji_rngG2 W.l_range J.je_int (J.je_add (J.je_var 6 rfl) J.je_int) hx11) (J.le_fgt 1 (.keep (.keep (.keep (.keep (.keep (.keep (.keep (.drop .nil)))))))) rfl) (fun _ => trivial) (fun _ => J.any_at rfl) (by decide) (fun s12 x14 => fun s1 H1 C1 cl1 fp1 =>  J.inJG hN fun hN => (J.jg_name 7 (hN := hN))) (fun s12 x14 o sZ _ h => by
      unfold m_law_lists_c0 at h
      obtain ⟨x15, hx15, h⟩ := J.bndE h
      obtain ⟨h8, h9⟩ := Prod.mk.inj (Option.some.inj h)
      subst h8
      subst h9
      exact ⟨true, _, (fun s1 H1 C1 cl1 fp1 =>  J.jts_nil), fun _ => ⟨_, _, rfl, (fun s1 H1 C1 cl1 fp1 =>  J.inJE hr hN fun hr hN => (J.je_frL (J.je_catG (xs := x9) (ys := ([x14] : List Int)) (J.je_var 5 rfl) (J.je_lstv (xs := ([x14] : List Int)) (J.ja_cons (J.je_var 7 rfl) J.ja_nil)) J.lh_val J.lh_own hx15))), (J.le_fgt 1 (.keep (.keep (.keep (.keep (.keep (.keep (.keep (.drop .nil)))))))) rfl)⟩, nofun⟩)) rfl J.lh_own hx17) ?_
      have h9 := Option.some.inj h
      subst h9
      exact J.js_nil fun T tv σ H g => ⟨(), J.le_fgt (sl := [(J.Slot.val (a0 : Int)), (J.Slot.val (a1 : Int)), (J.Slot.val (s3 : (List (List Int)))), (J.Slot.val (x5 : Int)), (J.Slot.v (.ref p6)), J.Slot.any, J.Slot.any, J.Slot.any]) (cs := [(p6, (J.Cel.lst ((x17 : List (List Int)).map J.Slot.val)))]) 1 (.keep (.keep (.keep (.keep (.keep (.drop (.drop (.drop .nil)))))))) rfl _ _ _ _ g⟩
    change J.JS _ _ (⟨[(J.Slot.val (a0 : Int)), (J.Slot.val (a1 : Int)), (J.Slot.val (s3 : (List (List Int)))), (J.Slot.val (x5 : Int)), (J.Slot.v (.ref p6)), J.Slot.any, J.Slot.any, J.Slot.any], [(p6, (J.Cel.lst ((s18 : List (List Int)).map J.Slot.val)))]⟩ : J.Stt) _ _
    refine J.js_frz 4 0 rfl rfl (J.fz_val _) ?_
    refine J.js_set (hN := hN) 2 (J.je_var 4 rfl) ?_
    have h9 := Option.some.inj h
    subst h9
    exact J.js_nil fun T tv σ H g => ⟨(), J.le_fgt (sl := [(J.Slot.val (a0 : Int)), (J.Slot.val (a1 : Int)), (J.Slot.val (s18 : (List (List Int)))), J.Slot.any, J.Slot.any, J.Slot.any, J.Slot.any, J.Slot.any]) (cs := []) 0 (.keep (.keep (.keep (.drop (.drop (.drop (.drop (.drop .nil)))))))) rfl _ _ _ _ g⟩
  change J.JS _ _ (⟨[(J.Slot.val (a0 : Int)), (J.Slot.val (a1 : Int)), (J.Slot.val (s19 : (List (List Int)))), J.Slot.any, J.Slot.any, J.Slot.any, J.Slot.any, J.Slot.any], []⟩ : J.Stt) _ _
  have h9 := Option.some.inj h
  subst h9
  exact J.js_ret (J.je_var 2 rfl) fun v H o => J.Out.take 0 o
structure G_look where
  p0 : PySem.Addr
  a1 : Int
  a0 : (List (List Int))
  out : Unit
abbrev R_look (r : Unit) : J.Slot := (J.Slot.v .non)
abbrev C_look (p0 : PySem.Addr) (a1 : Int) (a0 : (List (List Int))) (r : Unit) : List (PySem.Addr × J.Cel) := [(p0, (J.mlC J.intsC (a0 : List (List Int))))]
abbrev A_look (p0 : PySem.Addr) (a1 : Int) (a0 : (List (List Int))) : List J.Slot := [(J.Slot.v (.ref p0)), (J.Slot.val (a1 : Int))]
abbrev D_look (p0 : PySem.Addr) (a1 : Int) (a0 : (List (List Int))) : List (PySem.Addr × J.Cel) := [(p0, (J.mlC J.intsC (a0 : List (List Int))))]
def F_look (K : PySem.W.Frag) : J.FS G_look where
  pre := fun g => m_look g.a1 g.a0 = some g.out
  preG := fun _ _ => True
  args := fun g => A_look g.p0 g.a1 g.a0
  cells := fun g => D_look g.p0 g.a1 g.a0
  res := fun g => R_look g.out
  cells' := fun g => C_look g.p0 g.a1 g.a0 g.out
theorem ok_look (W : Wd K mg) : FnOk P w K mg base CX0 1 W.a_look W.d_look ["traces", "frames"] (F_look K).sp := by
  refine J.fn_okD (F_look K) W.F_look sc_look (fun g => rfl) (fun g => by intro s hs; simp only [F_look, List.mem_cons, List.not_mem_nil, or_false] at hs; rcases hs with rfl | rfl <;> first | rfl | exact J.xsl_plain) (fun cdv A outer s H E hr B g h hG => ?_)
  have hN := (sc_look).nd
  obtain ⟨p0, a1, a0, r0⟩ := g
  change m_look a1 a0 = some r0 at h
  unfold m_look at h
  change J.JS _ B (⟨[(J.Slot.v (.ref p0)), (J.Slot.val (a1 : Int))], [(p0, (J.mlC J.intsC (a0 : List (List Int))))]⟩ : J.Stt) _ (J.fend B (F_look K) ⟨p0, a1, a0, r0⟩)
  refine J.js_if (J.jt_eq' (t := (((a0).length : Int) : Int)) (r := (0 : Int)) hr (J.je_lend (t := (((a0).length : Int) : Int)) 0 0 rfl rfl (J.flat_int _) (fun B9 => (J.je_len (n := "len") (xs := a0) W.l_len (J.je_var 0 rfl) J.lv_val))) J.je_int J.dv_val J.dv_val) (fun hp => ?_) (fun hp => ?_)
  · replace h := J.ifT hp h
    exact nomatch h
  · replace h := J.ifF hp h
    refine J.js_end ?_
    change J.JS _ _ (⟨[(J.Slot.v (.ref p0)), (J.Slot.val (a1 : Int))], [(p0, (J.mlC J.intsC (a0 : List (List Int))))]⟩ : J.Stt) _ _
    refine J.js_if (J.jt_lt (J.je_var 1 rfl) (J.je_lend (t := (((a0).length : Int) : Int)) 0 0 rfl rfl (J.flat_int _) (fun B9 => (J.je_len (n := "len") (xs := a0) W.l_len (J.je_var 0 rfl) J.lv_val)))) (fun hp => ?_) (fun hp => ?_)
    · replace h := J.ifT hp h
      exact nomatch h
    · replace h := J.ifF hp h
      refine J.js_end ?_
      change J.JS _ _ (⟨[(J.Slot.v (.ref p0)), (J.Slot.val (a1 : Int))], [(p0, (J.mlC J.intsC (a0 : List (List Int))))]⟩ : J.Stt) _ _
      have h9 := Option.some.inj h
      subst h9
      exact J.js_fin 1 rfl rfl
structure G_depths where
  p0 : PySem.Addr
  a0 : (List Int)
  out : (List (Option Int))
abbrev R_depths (r : (List (Option Int))) : J.Slot := (J.Slot.own (J.Cel.lst ((r : List (Option Int)).map J.Slot.val)))
abbrev C_depths (p0 : PySem.Addr) (a0 : (List Int)) (r : (List (Option Int))) : List (PySem.Addr × J.Cel) := [(p0, (J.Cel.lst ((a0 : List Int).map J.Slot.val)))]
abbrev A_depths (p0 : PySem.Addr) (a0 : (List Int)) : List J.Slot := [(J.Slot.v (.ref p0))]
abbrev D_depths (p0 : PySem.Addr) (a0 : (List Int)) : List (PySem.Addr × J.Cel) := [(p0, (J.Cel.lst ((a0 : List Int).map J.Slot.val)))]
def F_depths (K : PySem.W.Frag) : J.FS G_depths where
  pre := fun g => m_depths g.a0 = some g.out
  preG := fun _ _ => True
  args := fun g => A_depths g.p0 g.a0
  cells := fun g => D_depths g.p0 g.a0
  res := fun g => R_depths g.out
  cells' := fun g => C_depths g.p0 g.a0 g.out
theorem ok_depths (W : Wd K mg) : FnOk P w K mg base CX0 1 W.a_depths W.d_depths ["trace"] (F_depths K).sp := by
  refine J.fn_okD (F_depths K) W.F_depths sc_depths (fun g => rfl) (fun g => by intro s hs; simp only [F_depths, List.mem_cons, List.not_mem_nil, or_false] at hs; rcases hs with rfl <;> first | rfl | exact J.xsl_plain) (fun cdv A outer s H E hr B g h hG => ?_)
  have hN := (sc_depths).nd
  obtain ⟨p0, a0, r0⟩ := g
  change m_depths a0 = some r0 at h
  unfold m_depths at h
  change J.JS _ B (⟨[(J.Slot.v (.ref p0)), J.Slot.any, J.Slot.any, J.Slot.any], [(p0, (J.Cel.lst ((a0 : List Int).map J.Slot.val)))]⟩ : J.Stt) _ (J.fend B (F_depths K) ⟨p0, a0, r0⟩)
  refine J.js_new (hN := hN) 1 (J.je_lstv (xs := ([] : List Int)) J.ja_nil) fun p1 => ?_
  refine J.js_new (hN := hN) 2 (J.je_lstv (xs := ([] : List (Option Int))) J.ja_nil) fun p2 => ?_
  obtain ⟨s13, hs13, h⟩ := J.bndE h
  refine J.js_forE (π := Unit) (f := m_depths_b0) (Sf := fun (q4 : Unit) (s3 : ((List Int) × (List (Option Int)))) => (⟨[(J.Slot.v (.ref p0)), (J.Slot.v (.ref p1)), (J.Slot.v (.ref p2)), J.Slot.any], [(p0, (J.Cel.lst ((a0 : List Int).map J.Slot.val))), (p1, (J.Cel.lst ((s3.1 : List Int).map J.Slot.val))), (p2, (J.Cel.lst ((s3.2 : List (Option Int)).map J.Slot.val)))]⟩ : J.Stt)) (Sb := fun (q4 : Unit) (s3 : ((List Int) × (List (Option Int)))) (x5 : Int) => (⟨[(J.Slot.v (.ref p0)), (J.Slot.v (.ref p1)), (J.Slot.v (.ref p2)), (J.Slot.val (x5 : Int))], [(p0, (J.Cel.lst ((a0 : List Int).map J.Slot.val))), (p1, (J.Cel.lst ((s3.1 : List Int).map J.Slot.val))), (p2, (J.Cel.lst ((s3.2 : List (Option Int)).map J.Slot.val)))]⟩ : J.Stt)) hs13 (J.ji_cell (xs := a0) 0 (J.je_var 0 rfl) rfl) (fun _ _ _ _ g => ⟨(), J.le_fgt (sl := [(J.Slot.v (.ref p0)), (J.Slot.v (.ref p1)), (J.Slot.v (.ref p2)), J.Slot.any]) (cs := [(p0, (J.Cel.lst ((a0 : List Int).map J.Slot.val))), (p1, (J.Cel.lst (((([] : List Int), ([] : List (Option Int))).1 : List Int).map J.Slot.val))), (p2, (J.Cel.lst (((([] : List Int), ([] : List (Option Int))).2 : List (Option Int)).map J.Slot.val)))]) 3 (.keep (.keep (.keep (.drop .nil)))) rfl _ _ _ _ g⟩) (fun _ _ => rfl) (fun q4 s3 x5 => (J.jg_name 3 (hN := hN))) (fun q4 s3 x5 sY _ h => ?_) (fun q4 => ?_)
  · unfold m_depths_b0 at h
    change J.JS _ _ (⟨[(J.Slot.v (.ref p0)), (J.Slot.v (.ref p1)), (J.Slot.v (.ref p2)), (J.Slot.val (x5 : Int))], [(p0, (J.Cel.lst ((a0 : List Int).map J.Slot.val))), (p1, (J.Cel.lst ((s3.1 : List Int).map J.Slot.val))), (p2, (J.Cel.lst ((s3.2 : List (Option Int)).map J.Slot.val)))]⟩ : J.Stt) _ _
    obtain ⟨s6, hs6, h⟩ := J.bndE h
    refine J.js_ifE (π := Unit) (Sq := fun (q7 : Unit) => (⟨[(J.Slot.v (.ref p0)), (J.Slot.v (.ref p1)), (J.Slot.v (.ref p2)), (J.Slot.val (x5 : Int))], [(p0, (J.Cel.lst ((a0 : List Int).map J.Slot.val))), (p1, (J.Cel.lst ((s6.1 : List Int).map J.Slot.val))), (p2, (J.Cel.lst ((s6.2 : List (Option Int)).map J.Slot.val)))]⟩ : J.Stt)) (J.jt_in (t := (x5 : Int)) (xs := s3.1) hr (J.je_var 3 rfl) (J.je_var 1 rfl) J.dv_val (J.lv_cell' 1 rfl)) (fun hp => ?_) (fun hp => ?_) (fun q7 => ?_)
    · have h := J.ifT hp hs6
      obtain ⟨x8, hx8, h⟩ := J.bndE h
      obtain ⟨x9, hx9, h⟩ := J.bndE h
      refine J.js_expr (J.je_appG (xs := s3.2) (t := ((some (((s3.1).length : Int) - x8)) : (Option Int))) 2 (J.je_var 2 rfl) rfl (J.je_some (J.je_sub (J.je_len (n := "len") (xs := s3.1) W.l_len (J.je_var 1 rfl) (J.lv_cell' 1 rfl)) (J.je_idxC (xs := s3.1) (t := (x5 : Int)) 1 hr (J.je_var 1 rfl) rfl (J.je_var 3 rfl) rfl hx8))) rfl hx9) ?_
      obtain ⟨x10, hx10, h⟩ := J.bndE h
      refine J.js_expr (J.je_remG (xs := s3.1) (t := (x5 : Int)) 1 hr (J.je_var 1 rfl) rfl (J.je_var 3 rfl) rfl hx10) ?_
      have h9 := Option.some.inj h
      subst h9
      exact J.js_loopEnd (Sq := fun (q7 : Unit) (s6 : ((List Int) × (List (Option Int)))) => (⟨[(J.Slot.v (.ref p0)), (J.Slot.v (.ref p1)), (J.Slot.v (.ref p2)), (J.Slot.val (x5 : Int))], [(p0, (J.Cel.lst ((a0 : List Int).map J.Slot.val))), (p1, (J.Cel.lst ((s6.1 : List Int).map J.Slot.val))), (p2, (J.Cel.lst ((s6.2 : List (Option Int)).map J.Slot.val)))]⟩ : J.Stt)) (s' := (x10, x9)) 3 () (.keep (.keep (.keep (.keep .nil)))) rfl rfl
    · have h := J.ifF hp hs6
      obtain ⟨x11, hx11, h⟩ := J.bndE h
      refine J.js_expr (J.je_appG (xs := s3.2) (t := (none : (Option Int))) 2 (J.je_var 2 rfl) rfl (J.je_nonO (α := Int) J.je_non) rfl hx11) ?_
      have h9 := Option.some.inj h
      subst h9
      exact J.js_loopEnd (Sq := fun (q7 : Unit) (s6 : ((List Int) × (List (Option Int)))) => (⟨[(J.Slot.v (.ref p0)), (J.Slot.v (.ref p1)), (J.Slot.v (.ref p2)), (J.Slot.val (x5 : Int))], [(p0, (J.Cel.lst ((a0 : List Int).map J.Slot.val))), (p1, (J.Cel.lst ((s6.1 : List Int).map J.Slot.val))), (p2, (J.Cel.lst ((s6.2 : List (Option Int)).map J.Slot.val)))]⟩ : J.Stt)) (s' := (s3.1, x11)) 3 () (.keep (.keep (.keep (.keep .nil)))) rfl rfl
    obtain ⟨x12, hx12, h⟩ := J.bndE h
    refine J.js_expr (J.je_appG (xs := s6.1) (t := (x5 : Int)) 1 (J.je_var 1 rfl) rfl (J.je_var 3 rfl) rfl hx12) ?_
    have h9 := Option.some.inj h
    subst h9
    exact J.js_nil fun T tv σ H g => ⟨(), J.le_fgt (sl := [(J.Slot.v (.ref p0)), (J.Slot.v (.ref p1)), (J.Slot.v (.ref p2)), J.Slot.any]) (cs := [(p0, (J.Cel.lst ((a0 : List Int).map J.Slot.val))), (p1, (J.Cel.lst (((x12, s6.2).1 : List Int).map J.Slot.val))), (p2, (J.Cel.lst (((x12, s6.2).2 : List (Option Int)).map J.Slot.val)))]) 3 (.keep (.keep (.keep (.drop .nil)))) rfl _ _ _ _ g⟩
  change J.JS _ _ (⟨[(J.Slot.v (.ref p0)), (J.Slot.v (.ref p1)), (J.Slot.v (.ref p2)), J.Slot.any], [(p0, (J.Cel.lst ((a0 : List Int).map J.Slot.val))), (p1, (J.Cel.lst ((s13.1 : List Int).map J.Slot.val))), (p2, (J.Cel.lst ((s13.2 : List (Option Int)).map J.Slot.val)))]⟩ : J.Stt) _ _
  have h9 := Option.some.inj h
  subst h9
  exact J.js_ret (J.je_own 2 (J.je_var 2 rfl) rfl) fun v H o => J.Out.take 1 o
structure G_curve where
  p0 : PySem.Addr
  a0 : (List Int)
  out : (List Int)
abbrev R_curve (r : (List Int)) : J.Slot := (J.Slot.own (J.Cel.lst ((r : List Int).map J.Slot.val)))
abbrev C_curve (p0 : PySem.Addr) (a0 : (List Int)) (r : (List Int)) : List (PySem.Addr × J.Cel) := [(p0, (J.Cel.lst ((a0 : List Int).map J.Slot.val)))]
abbrev A_curve (p0 : PySem.Addr) (a0 : (List Int)) : List J.Slot := [(J.Slot.v (.ref p0))]
abbrev D_curve (p0 : PySem.Addr) (a0 : (List Int)) : List (PySem.Addr × J.Cel) := [(p0, (J.Cel.lst ((a0 : List Int).map J.Slot.val)))]
def F_curve (K : PySem.W.Frag) : J.FS G_curve where
  pre := fun g => m_curve g.a0 = some g.out
  preG := fun _ _ => True
  args := fun g => A_curve g.p0 g.a0
  cells := fun g => D_curve g.p0 g.a0
  res := fun g => R_curve g.out
  cells' := fun g => C_curve g.p0 g.a0 g.out
theorem ok_curve (W : Wd K mg) : FnOk P w K mg base CX0 2 W.a_curve W.d_curve ["trace"] (F_curve K).sp := by
  refine J.fn_okD (F_curve K) W.F_curve sc_curve (fun g => rfl) (fun g => by intro s hs; simp only [F_curve, List.mem_cons, List.not_mem_nil, or_false] at hs; rcases hs with rfl <;> first | rfl | exact J.xsl_plain) (fun cdv A outer s H E hr B g h hG => ?_)
  have hN := (sc_curve).nd
  obtain ⟨p0, a0, r0⟩ := g
  change m_curve a0 = some r0 at h
  unfold m_curve at h
  change J.JS _ B (⟨[(J.Slot.v (.ref p0)), J.Slot.any, J.Slot.any, J.Slot.any, J.Slot.any], [(p0, (J.Cel.lst ((a0 : List Int).map J.Slot.val)))]⟩ : J.Stt) _ (J.fend B (F_curve K) ⟨p0, a0, r0⟩)
  obtain ⟨x1, hx1, h⟩ := J.bndE h
  refine J.js_set (hN := hN) 1 (J.je_frL (J.je_call (f := F_depths K) (ok_depths W) hr (by decide) W.g_depths W.F_depths.kp W.b_depths (J.ja_cons (J.je_var 0 rfl) J.ja_nil) (g := (⟨p0, a0, x1⟩ : G_depths)) hx1 rfl (.cons 0 rfl (by nofun) .nil) (.cons 0 rfl .nil) (hG := fun G e => trivial))) ?_
  change J.JS _ _ (⟨[(J.Slot.v (.ref p0)), (J.Slot.val (x1 : (List (Option Int)))), J.Slot.any, J.Slot.any, J.Slot.any], [(p0, (J.Cel.lst ((a0 : List Int).map J.Slot.val)))]⟩ : J.Stt) _ _
  refine J.js_new (hN := hN) 2 (J.je_lstv (xs := ([] : List Int)) J.ja_nil) fun p2 => ?_
  obtain ⟨x3, hx3, h⟩ := J.bndE h
  obtain ⟨s14, hs14, h⟩ := J.bndE h
  refine J.js_forE (π := Unit) (f := m_curve_b1 x1) (Sf := fun (q5 : Unit) (s4 : (List Int)) => (⟨[(J.Slot.v (.ref p0)), (J.Slot.val (x1 : (List (Option Int)))), (J.Slot.v (.ref p2)), J.Slot.any, J.Slot.any], [(p0, (J.Cel.lst ((a0 : List Int).map J.Slot.val))), (p2, (J.Cel.lst ((s4 : List Int).map J.Slot.val)))]⟩ : J.Stt)) (Sb := fun (q5 : Unit) (s4 : (List Int)) (x6 : Int) => (⟨[(J.Slot.v (.ref p0)), (J.Slot.val (x1 : (List (Option Int)))), (J.Slot.v (.ref p2)), (J.Slot.val (x6 : Int)), J.Slot.any], [(p0, (J.Cel.lst ((a0 : List Int).map J.Slot.val))), (p2, (J.Cel.lst ((s4 : List Int).map J.Slot.val)))]⟩ : J.Stt)) hs14 (J.ji_rngG2 W.l_range J.je_int (J.je_add (J.je_max2 W.l_max J.je_int (J.je_cntV (xs := x1) (t := (none : (Option Int))) hr (J.je_var 1 rfl) (J.je_nonO (α := Int) J.je_non))) J.je_int) hx3) (fun _ _ _ _ g => ⟨(), J.le_fgt (sl := [(J.Slot.v (.ref p0)), (J.Slot.val (x1 : (List (Option Int)))), (J.Slot.v (.ref p2)), J.Slot.any, J.Slot.any]) (cs := [(p0, (J.Cel.lst ((a0 : List Int).map J.Slot.val))), (p2, (J.Cel.lst ((([] : List Int) : List Int).map J.Slot.val)))]) 2 (.keep (.keep (.keep (.drop (.drop .nil))))) rfl _ _ _ _ g⟩) (fun _ _ => trivial) (fun q5 s4 x6 => (J.jg_name 3 (hN := hN))) (fun q5 s4 x6 sY _ h => ?_) (fun q5 => ?_)
  · unfold m_curve_b1 at h
    change J.JS _ _ (⟨[(J.Slot.v (.ref p0)), (J.Slot.val (x1 : (List (Option Int)))), (J.Slot.v (.ref p2)), (J.Slot.val (x6 : Int)), J.Slot.any], [(p0, (J.Cel.lst ((a0 : List Int).map J.Slot.val))), (p2, (J.Cel.lst ((s4 : List Int).map J.Slot.val)))]⟩ : J.Stt) _ _
    obtain ⟨x12, hx12, h⟩ := J.bndE h
    obtain ⟨x13, hx13, h⟩ := J.bndE h
    refine J.js_expr (J.je_appG (xs := s4) (t := (((x12.1).length : Int) : Int)) 1 (J.je_var 2 rfl) rfl (J.je_len (n := "len") (xs := x12.1) W.l_len (J.je_lc (f := m_curve_c0 x6) (el := J.Slot.val) (Sf := fun (s7 : Unit) => (⟨[(J.Slot.v (.ref p0)), (J.Slot.val (x1 : (List (Option Int)))), (J.Slot.v (.ref p2)), (J.Slot.val (x6 : Int)), J.Slot.any], [(p0, (J.Cel.lst ((a0 : List Int).map J.Slot.val))), (p2, (J.Cel.lst ((s4 : List Int).map J.Slot.val)))]⟩ : J.Stt)) (Sb := fun (s7 : Unit) (x9 : (Option Int)) => (⟨[(J.Slot.v (.ref p0)), (J.Slot.val (x1 : (List (Option Int)))), (J.Slot.v (.ref p2)), (J.Slot.val (x6 : Int)), (J.Slot.val (x9 : (Option Int)))], [(p0, (J.Cel.lst ((a0 : List Int).map J.Slot.val))), (p2, (J.Cel.lst ((s4 : List Int).map J.Slot.val)))]⟩ : J.Stt)) (s0 := ()) (own := [(("depth" : PySem.Str), 4)]) (ws := [4]) (J.lcM_of hx12).2 (J.lcM_of hx12).1 hN (L2.blkOk_by (N := ["trace", "told", "found", "room", "depth"]) (sc := defScope s_curve) (by decide +kernel)) (J.ji_val (xs := x1) (J.je_var 1 rfl)) (J.le_fgt 2 (.keep (.keep (.keep (.keep (.drop .nil))))) rfl) (fun _ => trivial) (fun _ => J.any_at rfl) (by decide) (fun s7 x9 => fun s1 H1 C1 cl1 fp1 =>  J.inJG hN fun hN => (J.jg_name 4 (hN := hN))) (fun s7 x9 o sZ _ h => by
      unfold m_curve_c0 at h
      obtain ⟨x11, hx11, h⟩ := J.bndE h
      by_cases hp : x11 = true
      · replace h := J.ifT hp h
        obtain ⟨h8, h9⟩ := Prod.mk.inj (Option.some.inj h)
        subst h8
        subst h9
        exact ⟨true, _, (fun s1 H1 C1 cl1 fp1 =>  J.inJTs hr hN fun hr hN => J.jts_one (J.jt_eq (J.JW.t (J.jw_orM hx11 (J.jt_isN (J.je_var 4 rfl) J.nn_opt) fun _ r h => by
      obtain ⟨x10, hx10, h⟩ := J.bndE h
      have h9 := Option.some.inj h
      subst h9
      exact (J.jw_or1 (J.jt_gt (J.je_get (J.je_var 4 rfl) hx10) (J.je_var 3 rfl))))) hp)), fun _ => ⟨_, _, rfl, (fun s1 H1 C1 cl1 fp1 =>  J.inJE hr hN fun hr hN => (J.je_var 4 rfl)), (J.le_fgt 2 (.keep (.keep (.keep (.keep (.drop .nil))))) rfl)⟩, nofun⟩
      · rw [Bool.not_eq_true] at hp
        replace h := J.ifF hp h
        obtain ⟨h8, h9⟩ := Prod.mk.inj (Option.some.inj h)
        subst h8
        subst h9
        exact ⟨false, _, (fun s1 H1 C1 cl1 fp1 =>  J.inJTs hr hN fun hr hN => J.jts_one (J.jt_eq (J.JW.t (J.jw_orM hx11 (J.jt_isN (J.je_var 4 rfl) J.nn_opt) fun _ r h => by
      obtain ⟨x10, hx10, h⟩ := J.bndE h
      have h9 := Option.some.inj h
      subst h9
      exact (J.jw_or1 (J.jt_gt (J.je_get (J.je_var 4 rfl) hx10) (J.je_var 3 rfl))))) hp)), nofun, fun _ => ⟨rfl, (J.le_fgt 2 (.keep (.keep (.keep (.keep (.drop .nil))))) rfl)⟩⟩)) J.lv_own') rfl hx13) ?_
    have h9 := Option.some.inj h
    subst h9
    exact J.js_nil fun T tv σ H g => ⟨(), J.le_fgt (sl := [(J.Slot.v (.ref p0)), (J.Slot.val (x1 : (List (Option Int)))), (J.Slot.v (.ref p2)), J.Slot.any, J.Slot.any]) (cs := [(p0, (J.Cel.lst ((a0 : List Int).map J.Slot.val))), (p2, (J.Cel.lst ((x13 : List Int).map J.Slot.val)))]) 2 (.keep (.keep (.keep (.drop (.drop .nil))))) rfl _ _ _ _ g⟩
  change J.JS _ _ (⟨[(J.Slot.v (.ref p0)), (J.Slot.val (x1 : (List (Option Int)))), (J.Slot.v (.ref p2)), J.Slot.any, J.Slot.any], [(p0, (J.Cel.lst ((a0 : List Int).map J.Slot.val))), (p2, (J.Cel.lst ((s14 : List Int).map J.Slot.val)))]⟩ : J.Stt) _ _
  have h9 := Option.some.inj h
  subst h9
  exact J.js_ret (J.je_own 1 (J.je_var 2 rfl) rfl) fun v H o => J.Out.take 1 o
structure G_faults_by_room where
  p0 : PySem.Addr
  a1 : Int
  a0 : (List Int)
  out : (List Int)
abbrev R_faults_by_room (r : (List Int)) : J.Slot := (J.Slot.own (J.Cel.lst ((r : List Int).map J.Slot.val)))
abbrev C_faults_by_room (p0 : PySem.Addr) (a1 : Int) (a0 : (List Int)) (r : (List Int)) : List (PySem.Addr × J.Cel) := [(p0, (J.Cel.lst ((a0 : List Int).map J.Slot.val)))]
abbrev A_faults_by_room (p0 : PySem.Addr) (a1 : Int) (a0 : (List Int)) : List J.Slot := [(J.Slot.v (.ref p0)), (J.Slot.val (a1 : Int))]
abbrev D_faults_by_room (p0 : PySem.Addr) (a1 : Int) (a0 : (List Int)) : List (PySem.Addr × J.Cel) := [(p0, (J.Cel.lst ((a0 : List Int).map J.Slot.val)))]
def F_faults_by_room (K : PySem.W.Frag) : J.FS G_faults_by_room where
  pre := fun g => m_faults_by_room g.a1 g.a0 = some g.out
  preG := fun _ _ => True
  args := fun g => A_faults_by_room g.p0 g.a1 g.a0
  cells := fun g => D_faults_by_room g.p0 g.a1 g.a0
  res := fun g => R_faults_by_room g.out
  cells' := fun g => C_faults_by_room g.p0 g.a1 g.a0 g.out
theorem ok_faults_by_room (W : Wd K mg) : FnOk P w K mg base CX0 3 W.a_faults_by_room W.d_faults_by_room ["trace", "most"] (F_faults_by_room K).sp := by
  refine J.fn_okD (F_faults_by_room K) W.F_faults_by_room sc_faults_by_room (fun g => rfl) (fun g => by intro s hs; simp only [F_faults_by_room, List.mem_cons, List.not_mem_nil, or_false] at hs; rcases hs with rfl | rfl <;> first | rfl | exact J.xsl_plain) (fun cdv A outer s H E hr B g h hG => ?_)
  have hN := (sc_faults_by_room).nd
  obtain ⟨p0, a1, a0, r0⟩ := g
  change m_faults_by_room a1 a0 = some r0 at h
  unfold m_faults_by_room at h
  change J.JS _ B (⟨[(J.Slot.v (.ref p0)), (J.Slot.val (a1 : Int)), J.Slot.any, J.Slot.any], [(p0, (J.Cel.lst ((a0 : List Int).map J.Slot.val)))]⟩ : J.Stt) _ (J.fend B (F_faults_by_room K) ⟨p0, a1, a0, r0⟩)
  obtain ⟨x1, hx1, h⟩ := J.bndE h
  refine J.js_set (hN := hN) 2 (J.je_frL (J.je_call (f := F_curve K) (ok_curve W) hr (by decide) W.g_curve W.F_curve.kp W.b_curve (J.ja_cons (J.je_var 0 rfl) J.ja_nil) (g := (⟨p0, a0, x1⟩ : G_curve)) hx1 rfl (.cons 0 rfl (by nofun) .nil) (.cons 0 rfl .nil) (hG := fun G e => trivial))) ?_
  change J.JS _ _ (⟨[(J.Slot.v (.ref p0)), (J.Slot.val (a1 : Int)), (J.Slot.val (x1 : (List Int))), J.Slot.any], [(p0, (J.Cel.lst ((a0 : List Int).map J.Slot.val)))]⟩ : J.Stt) _ _
  obtain ⟨x2, hx2, h⟩ := J.bndE h
  obtain ⟨x7, hx7, h⟩ := J.bndE h
  have h9 := Option.some.inj h
  subst h9
  exact J.js_ret (J.je_lc (f := m_faults_by_room_c0 x1) (el := J.Slot.val) (Sf := fun (s3 : Unit) => (⟨[(J.Slot.v (.ref p0)), (J.Slot.val (a1 : Int)), (J.Slot.val (x1 : (List Int))), J.Slot.any], [(p0, (J.Cel.lst ((a0 : List Int).map J.Slot.val)))]⟩ : J.Stt)) (Sb := fun (s3 : Unit) (x5 : Int) => (⟨[(J.Slot.v (.ref p0)), (J.Slot.val (a1 : Int)), (J.Slot.val (x1 : (List Int))), (J.Slot.val (x5 : Int))], [(p0, (J.Cel.lst ((a0 : List Int).map J.Slot.val)))]⟩ : J.Stt)) (s0 := ()) (own := [(("room" : PySem.Str), 3)]) (ws := [3]) (J.lcM_of hx7).2 (J.lcM_of hx7).1 hN (L2.blkOk_by (N := ["trace", "most", "told", "room"]) (sc := defScope s_faults_by_room) (by decide +kernel)) (J.ji_rngG2 W.l_range J.je_int (J.je_add (J.je_var 1 rfl) J.je_int) hx2) (J.le_fgt 1 (.keep (.keep (.keep (.drop .nil)))) rfl) (fun _ => trivial) (fun _ => J.any_at rfl) (by decide) (fun s3 x5 => fun s1 H1 C1 cl1 fp1 =>  J.inJG hN fun hN => (J.jg_name 3 (hN := hN))) (fun s3 x5 o sZ _ h => by
      unfold m_faults_by_room_c0 at h
      obtain ⟨x6, hx6, h⟩ := J.bndE h
      obtain ⟨h8, h9⟩ := Prod.mk.inj (Option.some.inj h)
      subst h8
      subst h9
      exact ⟨true, _, (fun s1 H1 C1 cl1 fp1 =>  J.jts_nil), fun _ => ⟨_, _, rfl, (fun s1 H1 C1 cl1 fp1 =>  J.inJE hr hN fun hr hN => (J.je_ixv (xs := x1) (J.je_var 2 rfl) (J.je_sub (J.je_min2 W.l_min (J.je_var 3 rfl) (J.je_len (n := "len") (xs := x1) W.l_len (J.je_var 2 rfl) J.lv_val)) J.je_int) J.lv_val hx6)), (J.le_fgt 1 (.keep (.keep (.keep (.drop .nil)))) rfl)⟩, nofun⟩)) fun v H o => J.Out.take 1 o
structure G_deal where
  p0 : PySem.Addr
  a1 : Int
  a0 : (List (List Int))
  out : (List Int)
abbrev R_deal (r : (List Int)) : J.Slot := (J.Slot.val (r : (List Int)))
abbrev C_deal (p0 : PySem.Addr) (a1 : Int) (a0 : (List (List Int))) (r : (List Int)) : List (PySem.Addr × J.Cel) := [(p0, (J.mlC J.intsC (a0 : List (List Int))))]
abbrev A_deal (p0 : PySem.Addr) (a1 : Int) (a0 : (List (List Int))) : List J.Slot := [(J.Slot.v (.ref p0)), (J.Slot.val (a1 : Int))]
abbrev D_deal (p0 : PySem.Addr) (a1 : Int) (a0 : (List (List Int))) : List (PySem.Addr × J.Cel) := [(p0, (J.mlC J.intsC (a0 : List (List Int))))]
def F_deal (K : PySem.W.Frag) : J.FS G_deal where
  pre := fun g => m_deal g.a1 g.a0 = some g.out
  preG := fun _ _ => True
  args := fun g => A_deal g.p0 g.a1 g.a0
  cells := fun g => D_deal g.p0 g.a1 g.a0
  res := fun g => R_deal g.out
  cells' := fun g => C_deal g.p0 g.a1 g.a0 g.out
theorem ok_deal (W : Wd K mg) : FnOk P w K mg base CX0 4 W.a_deal W.d_deal ["traces", "frames"] (F_deal K).sp := by
  refine J.fn_okD (F_deal K) W.F_deal sc_deal (fun g => rfl) (fun g => by intro s hs; simp only [F_deal, List.mem_cons, List.not_mem_nil, or_false] at hs; rcases hs with rfl | rfl <;> first | rfl | exact J.xsl_plain) (fun cdv A outer s H E hr B g h hG => ?_)
  have hN := (sc_deal).nd
  obtain ⟨p0, a1, a0, r0⟩ := g
  change m_deal a1 a0 = some r0 at h
  unfold m_deal at h
  change J.JS _ B (⟨[(J.Slot.v (.ref p0)), (J.Slot.val (a1 : Int)), J.Slot.any, J.Slot.any, J.Slot.any, J.Slot.any, J.Slot.any, J.Slot.any, J.Slot.any, J.Slot.any, J.Slot.any, J.Slot.any], [(p0, (J.mlC J.intsC (a0 : List (List Int))))]⟩ : J.Stt) _ (J.fend B (F_deal K) ⟨p0, a1, a0, r0⟩)
  obtain ⟨x1, hx1, h⟩ := J.bndE h
  refine J.js_expr (J.je_call (f := F_look K) (ok_look W) hr (by decide) W.g_look W.F_look.kp W.b_look (J.ja_cons (J.je_var 0 rfl) (J.ja_cons (J.je_var 1 rfl) J.ja_nil)) (g := (⟨p0, a1, a0, x1⟩ : G_look)) hx1 rfl (.cons 0 rfl (by nofun) .nil) (.cons 0 rfl .nil) (hG := fun G e => trivial)) ?_
  change J.JS _ _ (⟨[(J.Slot.v (.ref p0)), (J.Slot.val (a1 : Int)), J.Slot.any, J.Slot.any, J.Slot.any, J.Slot.any, J.Slot.any, J.Slot.any, J.Slot.any, J.Slot.any, J.Slot.any, J.Slot.any], [(p0, (J.mlC J.intsC (a0 : List (List Int))))]⟩ : J.Stt) _ _
  obtain ⟨x2, hx2, h⟩ := J.bndE h
  obtain ⟨x6, hx6, h⟩ := J.bndE h
  refine J.js_new (hN := hN) 2 (J.je_dc (f := m_deal_c0) (Sf := fun (s3 : Unit) => (⟨[(J.Slot.v (.ref p0)), (J.Slot.val (a1 : Int)), J.Slot.any, J.Slot.any, J.Slot.any, J.Slot.any, J.Slot.any, J.Slot.any, J.Slot.any, J.Slot.any, J.Slot.any, J.Slot.any], [(p0, (J.mlC J.intsC (a0 : List (List Int))))]⟩ : J.Stt)) (Sb := fun (s3 : Unit) (x5 : Int) => (⟨[(J.Slot.v (.ref p0)), (J.Slot.val (a1 : Int)), J.Slot.any, J.Slot.any, J.Slot.any, J.Slot.any, J.Slot.any, (J.Slot.val (x5 : Int)), J.Slot.any, J.Slot.any, J.Slot.any, J.Slot.any], [(p0, (J.mlC J.intsC (a0 : List (List Int))))]⟩ : J.Stt)) (s0 := ()) (own := [(("left" : PySem.Str), 7)]) (ws := [7]) (J.lcM_of hx6).2 (J.lcM_of hx6).1 hN (L2.blkOk_by (N := ["traces", "frames", "best", "behind", "trace", "many", "newer", "left", "some", "room", "total", "rooms"]) (sc := defScope s_deal) (by decide +kernel)) (J.ji_rngG W.l_range (J.je_add (J.je_var 1 rfl) J.je_int) hx2) (J.le_fgt 1 (.keep (.keep (.drop (.drop (.drop (.drop (.drop (.drop (.drop (.drop (.drop (.drop .nil)))))))))))) rfl) (fun _ => trivial) (fun _ => J.any_at rfl) (by decide) (fun s3 x5 => fun s1 H1 C1 cl1 fp1 =>  J.inJG hN fun hN => (J.jg_name 7 (hN := hN))) (fun s3 x5 o sZ _ h => by
      unfold m_deal_c0 at h
      obtain ⟨h8, h9⟩ := Prod.mk.inj (Option.some.inj h)
      subst h8
      subst h9
      exact ⟨true, _, (fun s1 H1 C1 cl1 fp1 =>  J.jts_nil), fun _ => ⟨_, _, rfl, _, (fun s1 H1 C1 cl1 fp1 =>  J.inJE hr hN fun hr hN => (J.je_var 7 rfl)), (fun s1 H1 C1 cl1 fp1 =>  J.inJE hr hN fun hr hN => (J.je_tup (t := ((0, ([] : List Int)) : (Int × (List Int)))) (J.ja_cons J.je_int (J.ja_cons (J.je_frL (J.je_lstv (xs := ([] : List Int)) J.ja_nil)) J.ja_nil)) (J.SlDs.cons J.sld_val (J.SlDs.cons J.sld_val J.SlDs.nil)) rfl (Nat.le_of_ble_eq_true rfl))), (J.le_fgt 1 (.keep (.keep (.drop (.drop (.drop (.drop (.drop (.drop (.drop (.drop (.drop (.drop .nil)))))))))))) rfl)⟩, nofun⟩)) fun p7 => ?_
  refine J.js_exposeM (f := J.intsC) (xs := (a0 : List (List Int))) 0 rfl fun q8 hq8 => ?_
  change J.JS _ _ (⟨[(J.Slot.v (.ref p0)), (J.Slot.val (a1 : Int)), (J.Slot.v (.ref p7)), J.Slot.any, J.Slot.any, J.Slot.any, J.Slot.any, J.Slot.any, J.Slot.any, J.Slot.any, J.Slot.any, J.Slot.any], [(p0, (J.mlA J.intsC q8 (a0 : List (List Int)))), (p7, (J.Cel.dk (J.dks ((J.dOf (x6.1 : List (Int × (Int × (List Int))))) : List (Int × (Int × (List Int))))) (J.dss ((J.dOf (x6.1 : List (Int × (Int × (List Int))))) : List (Int × (Int × (List Int)))))))]⟩ : J.Stt) _ _
  obtain ⟨s35, hs35, h⟩ := J.bndE h
  refine J.js_forEV (π := PySem.Addr) (f := fun s9 (a9 : (Int × List Int) × (PySem.Addr × Nat)) => (m_deal_b4 a1) s9 a9.1) (ei := fun (a9 : (Int × List Int) × (PySem.Addr × Nat)) => J.erS (a9.1.1, a9.2.1)) (xs := J.erI (a0 : List (List Int)) q8) (Sf := fun (q12 : PySem.Addr) (s11 : (List (Int × (Int × (List Int))))) => (⟨[(J.Slot.v (.ref p0)), (J.Slot.val (a1 : Int)), (J.Slot.v (.ref q12)), J.Slot.any, J.Slot.any, J.Slot.any, J.Slot.any, J.Slot.any, J.Slot.any, J.Slot.any, J.Slot.any, J.Slot.any], [(p0, (J.mlA J.intsC q8 (a0 : List (List Int)))), (q12, (J.Cel.dk (J.dks (s11 : List (Int × (Int × (List Int))))) (J.dss (s11 : List (Int × (Int × (List Int)))))))]⟩ : J.Stt)) (Sb := fun (q12 : PySem.Addr) (s11 : (List (Int × (Int × (List Int))))) (a9 : (Int × List Int) × (PySem.Addr × Nat)) => (⟨[(J.Slot.v (.ref p0)), (J.Slot.val (a1 : Int)), (J.Slot.v (.ref q12)), (J.Slot.val (a9.1.1 : Int)), (J.Slot.v (.ref a9.2.1)), J.Slot.any, J.Slot.any, J.Slot.any, J.Slot.any, J.Slot.any, J.Slot.any, J.Slot.any], [(p0, (J.mlA J.intsC q8 (a0 : List (List Int)))), (q12, (J.Cel.dk (J.dks (s11 : List (Int × (Int × (List Int))))) (J.dss (s11 : List (Int × (Int × (List Int)))))))]⟩ : J.Stt)) (J.forM_er hq8 hs35) (J.ji_erA (xs := (a0 : List (List Int))) W.l_enumerate W.l_reversed hq8 (J.je_list (ss := q8.map fun q9 => J.Slot.v (.ref q9)) W.l_list (J.je_var 0 rfl) (J.lv_mlA (f := J.intsC) (xs := (a0 : List (List Int))) 0 rfl))) (fun _ _ _ _ g => ⟨p7, J.le_fgt (sl := [(J.Slot.v (.ref p0)), (J.Slot.val (a1 : Int)), (J.Slot.v (.ref p7)), J.Slot.any, J.Slot.any, J.Slot.any, J.Slot.any, J.Slot.any, J.Slot.any, J.Slot.any, J.Slot.any, J.Slot.any]) (cs := [(p0, (J.mlA J.intsC q8 (a0 : List (List Int)))), (p7, (J.Cel.dk (J.dks ((J.dOf (x6.1 : List (Int × (Int × (List Int))))) : List (Int × (Int × (List Int))))) (J.dss ((J.dOf (x6.1 : List (Int × (Int × (List Int))))) : List (Int × (Int × (List Int)))))))]) 2 (.keep (.keep (.keep (.drop (.drop (.drop (.drop (.drop (.drop (.drop (.drop (.drop .nil)))))))))))) rfl _ _ _ _ g⟩) (fun _ _ => trivial) (fun q12 s11 a9 => (J.jg_er (J.jgs_cons (J.jg_name 3 (hN := hN)) (J.jgs_cons (J.jg_name 4 (hN := hN)) J.jgs_nil)))) (fun q12 s11 a9 sY hm h => ?_) (fun q12 => ?_)
  · obtain ⟨x13, q9, n10⟩ := a9
    obtain ⟨hqq9, hxq9⟩ := J.erI_at hq8 hm
    replace hqq9 : q8[n10]? = some q9 := hqq9
    replace hxq9 : J.gx (a0 : List (List Int)) ((n10 : Nat) : Int) = some x13.2 := hxq9
    replace h : (m_deal_b4 a1) s11 x13 = some sY := h
    unfold m_deal_b4 at h
    change J.JS _ _ (⟨[(J.Slot.v (.ref p0)), (J.Slot.val (a1 : Int)), (J.Slot.v (.ref q12)), (J.Slot.val (x13.1 : Int)), (J.Slot.v (.ref q9)), J.Slot.any, J.Slot.any, J.Slot.any, J.Slot.any, J.Slot.any, J.Slot.any, J.Slot.any], [(p0, (J.mlA J.intsC q8 (a0 : List (List Int)))), (q12, (J.Cel.dk (J.dks (s11 : List (Int × (Int × (List Int))))) (J.dss (s11 : List (Int × (Int × (List Int)))))))]⟩ : J.Stt) _ _
    refine J.js_le (J.le_openI (f := J.intsC) (xs := (a0 : List (List Int))) 0 n10 hqq9 hxq9 rfl) ?_
    change J.JS _ _ (⟨[(J.Slot.v (.ref p0)), (J.Slot.val (a1 : Int)), (J.Slot.v (.ref q12)), (J.Slot.val (x13.1 : Int)), (J.Slot.v (.ref q9)), J.Slot.any, J.Slot.any, J.Slot.any, J.Slot.any, J.Slot.any, J.Slot.any, J.Slot.any], [(p0, (J.mlAH J.intsC q8 (a0 : List (List Int)) n10 q9)), (q12, (J.Cel.dk (J.dks (s11 : List (Int × (Int × (List Int))))) (J.dss (s11 : List (Int × (Int × (List Int))))))), (q9, (J.Cel.lst ((x13.2 : List Int).map J.Slot.val)))]⟩ : J.Stt) _ _
    obtain ⟨x14, hx14, h⟩ := J.bndE h
    refine J.js_set (hN := hN) 5 (J.je_frL (J.je_call (f := F_faults_by_room K) (ok_faults_by_room W) hr (by decide) W.g_faults_by_room W.F_faults_by_room.kp W.b_faults_by_room (J.ja_cons (J.je_var 4 rfl) (J.ja_cons (J.je_var 1 rfl) J.ja_nil)) (g := (⟨q9, a1, x13.2, x14⟩ : G_faults_by_room)) hx14 rfl (.cons 2 rfl (by nofun) .nil) (.cons 2 rfl .nil) (hG := fun G e => trivial))) ?_
    change J.JS _ _ (⟨[(J.Slot.v (.ref p0)), (J.Slot.val (a1 : Int)), (J.Slot.v (.ref q12)), (J.Slot.val (x13.1 : Int)), (J.Slot.v (.ref q9)), (J.Slot.val (x14 : (List Int))), J.Slot.any, J.Slot.any, J.Slot.any, J.Slot.any, J.Slot.any, J.Slot.any], [(p0, (J.mlAH J.intsC q8 (a0 : List (List Int)) n10 q9)), (q12, (J.Cel.dk (J.dks (s11 : List (Int × (Int × (List Int))))) (J.dss (s11 : List (Int × (Int × (List Int))))))), (q9, (J.Cel.lst ((x13.2 : List Int).map J.Slot.val)))]⟩ : J.Stt) _ _
    refine J.js_le (J.le_closeS (f := J.intsC) (xs := (a0 : List (List Int))) 0 2 n10 2 hxq9 hqq9 rfl rfl (by decide) (fun _ => by nofun)) ?_
    change J.JS _ _ (⟨[(J.Slot.v (.ref p0)), (J.Slot.val (a1 : Int)), (J.Slot.v (.ref q12)), (J.Slot.val (x13.1 : Int)), (J.Slot.v (.ref q9)), (J.Slot.val (x14 : (List Int))), J.Slot.any, J.Slot.any, J.Slot.any, J.Slot.any, J.Slot.any, J.Slot.any], [(p0, (J.mlA J.intsC q8 (a0 : List (List Int)))), (q12, (J.Cel.dk (J.dks (s11 : List (Int × (Int × (List Int))))) (J.dss (s11 : List (Int × (Int × (List Int)))))))]⟩ : J.Stt) _ _
    refine J.js_new (hN := hN) 6 (J.je_disp0 (β := (Int × (List Int)))) fun p15 => ?_
    obtain ⟨x16, hx16, h⟩ := J.bndE h
    obtain ⟨s34, hs34, h⟩ := J.bndE h
    refine J.js_forE (π := Unit) (f := m_deal_b3 s11 x13 x14) (Sf := fun (q18 : Unit) (s17 : (List (Int × (Int × (List Int))))) => (⟨[(J.Slot.v (.ref p0)), (J.Slot.val (a1 : Int)), (J.Slot.v (.ref q12)), (J.Slot.val (x13.1 : Int)), (J.Slot.v (.ref q9)), (J.Slot.val (x14 : (List Int))), (J.Slot.v (.ref p15)), J.Slot.any, J.Slot.any, J.Slot.any, J.Slot.any, J.Slot.any], [(p0, (J.mlA J.intsC q8 (a0 : List (List Int)))), (q12, (J.Cel.dk (J.dks (s11 : List (Int × (Int × (List Int))))) (J.dss (s11 : List (Int × (Int × (List Int))))))), (p15, (J.Cel.dk (J.dks (s17 : List (Int × (Int × (List Int))))) (J.dss (s17 : List (Int × (Int × (List Int)))))))]⟩ : J.Stt)) (Sb := fun (q18 : Unit) (s17 : (List (Int × (Int × (List Int))))) (x19 : Int) => (⟨[(J.Slot.v (.ref p0)), (J.Slot.val (a1 : Int)), (J.Slot.v (.ref q12)), (J.Slot.val (x13.1 : Int)), (J.Slot.v (.ref q9)), (J.Slot.val (x14 : (List Int))), (J.Slot.v (.ref p15)), (J.Slot.val (x19 : Int)), J.Slot.any, J.Slot.any, J.Slot.any, J.Slot.any], [(p0, (J.mlA J.intsC q8 (a0 : List (List Int)))), (q12, (J.Cel.dk (J.dks (s11 : List (Int × (Int × (List Int))))) (J.dss (s11 : List (Int × (Int × (List Int))))))), (p15, (J.Cel.dk (J.dks (s17 : List (Int × (Int × (List Int))))) (J.dss (s17 : List (Int × (Int × (List Int)))))))]⟩ : J.Stt)) hs34 (J.ji_rngG2 W.l_range (J.je_add (J.je_var 3 rfl) J.je_int) (J.je_add (J.je_var 1 rfl) J.je_int) hx16) (fun _ _ _ _ g => ⟨(), J.le_fgt (sl := [(J.Slot.v (.ref p0)), (J.Slot.val (a1 : Int)), (J.Slot.v (.ref q12)), (J.Slot.val (x13.1 : Int)), (J.Slot.v (.ref q9)), (J.Slot.val (x14 : (List Int))), (J.Slot.v (.ref p15)), J.Slot.any, J.Slot.any, J.Slot.any, J.Slot.any, J.Slot.any]) (cs := [(p0, (J.mlA J.intsC q8 (a0 : List (List Int)))), (q12, (J.Cel.dk (J.dks (s11 : List (Int × (Int × (List Int))))) (J.dss (s11 : List (Int × (Int × (List Int))))))), (p15, (J.Cel.dk (J.dks (([] : List (Int × (Int × (List Int)))) : List (Int × (Int × (List Int))))) (J.dss (([] : List (Int × (Int × (List Int)))) : List (Int × (Int × (List Int)))))))]) 3 (.keep (.keep (.keep (.keep (.keep (.keep (.keep (.drop (.drop (.drop (.drop (.drop .nil)))))))))))) rfl _ _ _ _ g⟩) (fun _ _ => trivial) (fun q18 s17 x19 => (J.jg_name 7 (hN := hN))) (fun q18 s17 x19 sY _ h => ?_) (fun q18 => ?_)
    · unfold m_deal_b3 at h
      change J.JS _ _ (⟨[(J.Slot.v (.ref p0)), (J.Slot.val (a1 : Int)), (J.Slot.v (.ref q12)), (J.Slot.val (x13.1 : Int)), (J.Slot.v (.ref q9)), (J.Slot.val (x14 : (List Int))), (J.Slot.v (.ref p15)), (J.Slot.val (x19 : Int)), J.Slot.any, J.Slot.any, J.Slot.any, J.Slot.any], [(p0, (J.mlA J.intsC q8 (a0 : List (List Int)))), (q12, (J.Cel.dk (J.dks (s11 : List (Int × (Int × (List Int))))) (J.dss (s11 : List (Int × (Int × (List Int))))))), (p15, (J.Cel.dk (J.dks (s17 : List (Int × (Int × (List Int))))) (J.dss (s17 : List (Int × (Int × (List Int)))))))]⟩ : J.Stt) _ _
      obtain ⟨x20, hx20, h⟩ := J.bndE h
      obtain ⟨x25, hx25, h⟩ := J.bndE h
      refine J.js_setLc 8 (z := (J.Slot.val (x25.1 : (List (Int × (Int × (List Int))))))) (f := m_deal_c1 s11 x19) (el := J.Slot.val) (Sf := fun (s21 : Unit) => (⟨[(J.Slot.v (.ref p0)), (J.Slot.val (a1 : Int)), (J.Slot.v (.ref q12)), (J.Slot.val (x13.1 : Int)), (J.Slot.v (.ref q9)), (J.Slot.val (x14 : (List Int))), (J.Slot.v (.ref p15)), (J.Slot.val (x19 : Int)), J.Slot.any, J.Slot.any, J.Slot.any, J.Slot.any], [(p0, (J.mlA J.intsC q8 (a0 : List (List Int)))), (q12, (J.Cel.dk (J.dks (s11 : List (Int × (Int × (List Int))))) (J.dss (s11 : List (Int × (Int × (List Int))))))), (p15, (J.Cel.dk (J.dks (s17 : List (Int × (Int × (List Int))))) (J.dss (s17 : List (Int × (Int × (List Int)))))))]⟩ : J.Stt)) (Sb := fun (s21 : Unit) (x23 : Int) => (⟨[(J.Slot.v (.ref p0)), (J.Slot.val (a1 : Int)), (J.Slot.v (.ref q12)), (J.Slot.val (x13.1 : Int)), (J.Slot.v (.ref q9)), (J.Slot.val (x14 : (List Int))), (J.Slot.v (.ref p15)), (J.Slot.val (x19 : Int)), J.Slot.any, (J.Slot.val (x23 : Int)), J.Slot.any, J.Slot.any], [(p0, (J.mlA J.intsC q8 (a0 : List (List Int)))), (q12, (J.Cel.dk (J.dks (s11 : List (Int × (Int × (List Int))))) (J.dss (s11 : List (Int × (Int × (List Int))))))), (p15, (J.Cel.dk (J.dks (s17 : List (Int × (Int × (List Int))))) (J.dss (s17 : List (Int × (Int × (List Int)))))))]⟩ : J.Stt)) (s0 := ()) (own := [(("room" : PySem.Str), 9)]) (ws := [9]) (J.lcM_of hx25).2 (J.lcM_of hx25).1 hN (L2.blkOk_by (N := ["traces", "frames", "best", "behind", "trace", "many", "newer", "left", "some", "room", "total", "rooms"]) (sc := defScope s_deal) (by decide +kernel)) (J.ji_rngG2 W.l_range J.je_int (J.je_add (J.je_sub (J.je_var 7 rfl) (J.je_var 3 rfl)) J.je_int) hx20) (J.le_fgt 3 (.keep (.keep (.keep (.keep (.keep (.keep (.keep (.keep (.drop (.drop (.drop (.drop .nil)))))))))))) rfl) (fun _ => trivial) (fun _ => J.any_at rfl) (by decide) (fun s21 x23 => fun s1 H1 C1 cl1 fp1 =>  J.inJG hN fun hN => (J.jg_name 9 (hN := hN))) (fun s21 x23 o sZ _ h => by
      unfold m_deal_c1 at h
      obtain ⟨x24, hx24, h⟩ := J.bndE h
      obtain ⟨h8, h9⟩ := Prod.mk.inj (Option.some.inj h)
      subst h8
      subst h9
      exact ⟨true, _, (fun s1 H1 C1 cl1 fp1 =>  J.jts_nil), fun _ => ⟨_, _, rfl, (fun s1 H1 C1 cl1 fp1 =>  J.inJE hr hN fun hr hN => (J.je_tup (t := ((x23, x24) : (Int × (Int × (List Int))))) (J.ja_cons (J.je_var 9 rfl) (J.ja_cons (J.je_dgetI (m := s11) 1 hr (J.je_var 2 rfl) (J.je_sub (J.je_var 7 rfl) (J.je_var 9 rfl)) rfl hx24) J.ja_nil)) (J.SlDs.cons J.sld_val (J.SlDs.cons J.sld_val J.SlDs.nil)) rfl (Nat.le_of_ble_eq_true rfl))), (J.le_fgt 3 (.keep (.keep (.keep (.keep (.keep (.keep (.keep (.keep (.drop (.drop (.drop (.drop .nil)))))))))))) rfl)⟩, nofun⟩) (fun h => h.frz (.own (J.fz_val _)) fun G d => .val d) ?_
      obtain ⟨x31, hx31, h⟩ := J.bndE h
      obtain ⟨x32, hx32, h⟩ := J.bndE h
      obtain ⟨x33, hx33, h⟩ := J.bndE h
      refine J.js_dputI (m := s17) 2 hr (J.je_minG (xs := x31.1) hr W.l_min (J.je_lc (f := m_deal_c2 x14) (el := J.Slot.val) (Sf := fun (s26 : Unit) => (⟨[(J.Slot.v (.ref p0)), (J.Slot.val (a1 : Int)), (J.Slot.v (.ref q12)), (J.Slot.val (x13.1 : Int)), (J.Slot.v (.ref q9)), (J.Slot.val (x14 : (List Int))), (J.Slot.v (.ref p15)), (J.Slot.val (x19 : Int)), (J.Slot.val (x25.1 : (List (Int × (Int × (List Int)))))), J.Slot.any, J.Slot.any, J.Slot.any], [(p0, (J.mlA J.intsC q8 (a0 : List (List Int)))), (q12, (J.Cel.dk (J.dks (s11 : List (Int × (Int × (List Int))))) (J.dss (s11 : List (Int × (Int × (List Int))))))), (p15, (J.Cel.dk (J.dks (s17 : List (Int × (Int × (List Int))))) (J.dss (s17 : List (Int × (Int × (List Int)))))))]⟩ : J.Stt)) (Sb := fun (s26 : Unit) (x28 : (Int × (Int × (List Int)))) => (⟨[(J.Slot.v (.ref p0)), (J.Slot.val (a1 : Int)), (J.Slot.v (.ref q12)), (J.Slot.val (x13.1 : Int)), (J.Slot.v (.ref q9)), (J.Slot.val (x14 : (List Int))), (J.Slot.v (.ref p15)), (J.Slot.val (x19 : Int)), (J.Slot.val (x25.1 : (List (Int × (Int × (List Int)))))), (J.Slot.val (x28.1 : Int)), (J.Slot.val (x28.2.1 : Int)), (J.Slot.val (x28.2.2 : (List Int)))], [(p0, (J.mlA J.intsC q8 (a0 : List (List Int)))), (q12, (J.Cel.dk (J.dks (s11 : List (Int × (Int × (List Int))))) (J.dss (s11 : List (Int × (Int × (List Int))))))), (p15, (J.Cel.dk (J.dks (s17 : List (Int × (Int × (List Int))))) (J.dss (s17 : List (Int × (Int × (List Int)))))))]⟩ : J.Stt)) (s0 := ()) (own := [(("room" : PySem.Str), 9), (("total" : PySem.Str), 10), (("rooms" : PySem.Str), 11)]) (ws := [9, 10, 11]) (J.lcM_of hx31).2 (J.lcM_of hx31).1 hN (L2.blkOk_by (N := ["traces", "frames", "best", "behind", "trace", "many", "newer", "left", "some", "room", "total", "rooms"]) (sc := defScope s_deal) (by decide +kernel)) (J.ji_val (xs := x25.1) (J.je_var 8 rfl)) (J.le_fgt 3 (.keep (.keep (.keep (.keep (.keep (.keep (.keep (.keep (.keep (.drop (.drop (.drop .nil)))))))))))) rfl) (fun _ => trivial) (fun _ => J.any_at rfl) (by decide) (fun s26 x28 => fun s1 H1 C1 cl1 fp1 =>  J.inJG hN fun hN => (J.jg_pair (J.jgs_cons (J.jg_name 9 (hN := hN)) (J.jgs_cons (J.jg_pair (J.jgs_cons (J.jg_name 10 (hN := hN)) (J.jgs_cons (J.jg_name 11 (hN := hN)) J.jgs_nil))) J.jgs_nil)))) (fun s26 x28 o sZ _ h => by
      unfold m_deal_c2 at h
      obtain ⟨x29, hx29, h⟩ := J.bndE h
      obtain ⟨x30, hx30, h⟩ := J.bndE h
      obtain ⟨h8, h9⟩ := Prod.mk.inj (Option.some.inj h)
      subst h8
      subst h9
      exact ⟨true, _, (fun s1 H1 C1 cl1 fp1 =>  J.jts_nil), fun _ => ⟨_, _, rfl, (fun s1 H1 C1 cl1 fp1 =>  J.inJE hr hN fun hr hN => (J.je_tup (t := (((x29 + x28.2.1), x30) : (Int × (List Int)))) (J.ja_cons (J.je_add (J.je_ixv (xs := x14) (J.je_var 5 rfl) (J.je_sub (J.je_var 9 rfl) J.je_int) J.lv_val hx29) (J.je_var 10 rfl)) (J.ja_cons (J.je_frL (J.je_catG (xs := ([x28.1] : List Int)) (ys := x28.2.2) (J.je_lstv (xs := ([x28.1] : List Int)) (J.ja_cons (J.je_var 9 rfl) J.ja_nil)) (J.je_var 11 rfl) J.lh_own J.lh_val hx30)) J.ja_nil)) (J.SlDs.cons J.sld_val (J.SlDs.cons J.sld_val J.SlDs.nil)) rfl (Nat.le_of_ble_eq_true rfl))), (J.le_fgt 3 (.keep (.keep (.keep (.keep (.keep (.keep (.keep (.keep (.keep (.drop (.drop (.drop .nil)))))))))))) rfl)⟩, nofun⟩)) J.lv_own' hx32) (J.je_var 6 rfl) (J.je_var 7 rfl) rfl hx33 ?_
      change J.JS _ _ (⟨[(J.Slot.v (.ref p0)), (J.Slot.val (a1 : Int)), (J.Slot.v (.ref q12)), (J.Slot.val (x13.1 : Int)), (J.Slot.v (.ref q9)), (J.Slot.val (x14 : (List Int))), (J.Slot.v (.ref p15)), (J.Slot.val (x19 : Int)), (J.Slot.val (x25.1 : (List (Int × (Int × (List Int)))))), J.Slot.any, J.Slot.any, J.Slot.any], [(p0, (J.mlA J.intsC q8 (a0 : List (List Int)))), (q12, (J.Cel.dk (J.dks (s11 : List (Int × (Int × (List Int))))) (J.dss (s11 : List (Int × (Int × (List Int))))))), (p15, (J.Cel.dk (J.dks (x33 : List (Int × (Int × (List Int))))) (J.dss (x33 : List (Int × (Int × (List Int)))))))]⟩ : J.Stt) _ _
      have h9 := Option.some.inj h
      subst h9
      exact J.js_nil fun T tv σ H g => ⟨(), J.le_fgt (sl := [(J.Slot.v (.ref p0)), (J.Slot.val (a1 : Int)), (J.Slot.v (.ref q12)), (J.Slot.val (x13.1 : Int)), (J.Slot.v (.ref q9)), (J.Slot.val (x14 : (List Int))), (J.Slot.v (.ref p15)), J.Slot.any, J.Slot.any, J.Slot.any, J.Slot.any, J.Slot.any]) (cs := [(p0, (J.mlA J.intsC q8 (a0 : List (List Int)))), (q12, (J.Cel.dk (J.dks (s11 : List (Int × (Int × (List Int))))) (J.dss (s11 : List (Int × (Int × (List Int))))))), (p15, (J.Cel.dk (J.dks (x33 : List (Int × (Int × (List Int))))) (J.dss (x33 : List (Int × (Int × (List Int)))))))]) 3 (.keep (.keep (.keep (.keep (.keep (.keep (.keep (.drop (.drop (.drop (.drop (.drop .nil)))))))))))) rfl _ _ _ _ g⟩
    change J.JS _ _ (⟨[(J.Slot.v (.ref p0)), (J.Slot.val (a1 : Int)), (J.Slot.v (.ref q12)), (J.Slot.val (x13.1 : Int)), (J.Slot.v (.ref q9)), (J.Slot.val (x14 : (List Int))), (J.Slot.v (.ref p15)), J.Slot.any, J.Slot.any, J.Slot.any, J.Slot.any, J.Slot.any], [(p0, (J.mlA J.intsC q8 (a0 : List (List Int)))), (q12, (J.Cel.dk (J.dks (s11 : List (Int × (Int × (List Int))))) (J.dss (s11 : List (Int × (Int × (List Int))))))), (p15, (J.Cel.dk (J.dks (s34 : List (Int × (Int × (List Int))))) (J.dss (s34 : List (Int × (Int × (List Int)))))))]⟩ : J.Stt) _ _
    refine J.js_set (hN := hN) 2 (J.je_var 6 rfl) ?_
    have h9 := Option.some.inj h
    subst h9
    refine J.js_mv 1 2 rfl rfl ?_
    exact J.js_nil fun T tv σ H g => ⟨p15, J.le_fgt (sl := [(J.Slot.v (.ref p0)), (J.Slot.val (a1 : Int)), (J.Slot.v (.ref p15)), J.Slot.any, J.Slot.any, J.Slot.any, J.Slot.any, J.Slot.any, J.Slot.any, J.Slot.any, J.Slot.any, J.Slot.any]) (cs := [(p0, (J.mlA J.intsC q8 (a0 : List (List Int)))), (p15, (J.Cel.dk (J.dks (s34 : List (Int × (Int × (List Int))))) (J.dss (s34 : List (Int × (Int × (List Int)))))))]) 2 (.keep (.keep (.keep (.drop (.drop (.drop (.drop (.drop (.drop (.drop (.drop (.drop .nil)))))))))))) rfl _ _ _ _ g⟩
  refine J.js_le (J.le_hideM (f := J.intsC) (xs := (a0 : List (List Int))) 0 rfl) ?_
  change J.JS _ _ (⟨[(J.Slot.v (.ref p0)), (J.Slot.val (a1 : Int)), (J.Slot.v (.ref q12)), J.Slot.any, J.Slot.any, J.Slot.any, J.Slot.any, J.Slot.any, J.Slot.any, J.Slot.any, J.Slot.any, J.Slot.any], [(p0, (J.mlC J.intsC (a0 : List (List Int)))), (q12, (J.Cel.dk (J.dks (s35 : List (Int × (Int × (List Int))))) (J.dss (s35 : List (Int × (Int × (List Int)))))))]⟩ : J.Stt) _ _
  obtain ⟨x36, hx36, h⟩ := J.bndE h
  have h9 := Option.some.inj h
  subst h9
  exact J.js_ret (J.je_tpix (t := (x36 : (Int × (List Int)))) (r := (x36.2 : (List Int))) (J.je_dgetI (m := s35) 1 hr (J.je_var 2 rfl) (J.je_var 1 rfl) rfl hx36) J.je_int rfl rfl) fun v H o => J.Out.take 1 o
structure G_law where
  p0 : PySem.Addr
  a0 : List Int
  out : Bool
abbrev R_law (r : Bool) : J.Slot := (J.Slot.val (r : Bool))
abbrev C_law (p0 : PySem.Addr) (a0 : List Int) (r : Bool) : List (PySem.Addr × J.Cel) := []
abbrev A_law (p0 : PySem.Addr) (a0 : List Int) : List J.Slot := [(J.Slot.v (.ref p0))]
abbrev D_law (p0 : PySem.Addr) (a0 : List Int) : List (PySem.Addr × J.Cel) := []
def F_law (K : PySem.W.Frag) : J.FS G_law where
  pre := fun g => m_law g.a0 = some g.out
  preG := fun g G => L2.SqL K G g.p0 (g.a0.map V.int)
  args := fun g => A_law g.p0 g.a0
  cells := fun g => D_law g.p0 g.a0
  res := fun g => R_law g.out
  cells' := fun g => C_law g.p0 g.a0 g.out
theorem ok_law (W : Wd K mg) : FnOk P w K mg base CX0 5 W.a_law W.d_law ["script"] (F_law K).sp := by
  refine J.fn_okD (F_law K) W.F_law sc_law (fun g => rfl) (fun g => by intro s hs; simp only [F_law, List.mem_cons, List.not_mem_nil, or_false] at hs; rcases hs with rfl <;> first | rfl | exact J.xsl_plain) (fun cdv A outer s H E hr B g h hG => ?_)
  have hN := (sc_law).nd
  obtain ⟨p0, a0, r0⟩ := g
  change m_law a0 = some r0 at h
  unfold m_law at h
  change J.JS _ B (⟨[(J.Slot.v (.ref p0)), J.Slot.any, J.Slot.any, J.Slot.any, J.Slot.any, J.Slot.any, J.Slot.any, J.Slot.any, J.Slot.any, J.Slot.any, J.Slot.any, J.Slot.any], []⟩ : J.Stt) _ (J.fend B (F_law K) ⟨p0, a0, r0⟩)
  obtain ⟨x1, hx1, h⟩ := J.bndE h
  refine J.js_new (hN := hN) 1 (J.je_call (f := F_law_bag K) (ok_law_bag W) hr (by decide) W.g__law_bag W.F__law_bag.kp W.b__law_bag (J.ja_cons (J.je_var 0 rfl) J.ja_nil) (g := (⟨p0, a0, x1⟩ : G_law_bag)) hx1 rfl .nil .nil (hG := fun G e => J.sql_mono hG e)) fun p2 => ?_
  refine J.js_open 0 0 rfl rfl fun p3 => ?_
  change J.JS _ _ (⟨[(J.Slot.v (.ref p0)), (J.Slot.v (.ref p2)), J.Slot.any, J.Slot.any, J.Slot.any, J.Slot.any, J.Slot.any, J.Slot.any, J.Slot.any, J.Slot.any, J.Slot.any, J.Slot.any], [(p2, (J.Cel.dk [Sum.inr ("great" : PySem.Str), Sum.inr ("left" : PySem.Str), Sum.inr ("turn" : PySem.Str), Sum.inr ("fold" : PySem.Str)] [(J.Slot.v (.ref p3)), (J.Slot.val (x1.2.1 : Int)), (J.Slot.val (x1.2.2.1 : Int)), (J.Slot.val (x1.2.2.2 : Int))])), (p3, (J.Cel.lst ((x1.1 : List Int).map J.Slot.val)))]⟩ : J.Stt) _ _
  obtain ⟨x4, hx4, h⟩ := J.bndE h
  obtain ⟨o40, ho40, h⟩ := J.bndE h
  refine J.js_forLE (π := Unit) (Rr := fun r => J.Out B (R_law r) (C_law p0 a0 r)) (f := m_law_b3 x1) (Sf := fun (q6 : Unit) (s5 : (Int × (Int × (List Int)))) => (⟨[(J.Slot.v (.ref p0)), (J.Slot.v (.ref p2)), J.Slot.any, J.Slot.any, J.Slot.any, J.Slot.any, J.Slot.any, J.Slot.any, J.Slot.any, J.Slot.any, J.Slot.any, J.Slot.any], [(p2, (J.Cel.dk [Sum.inr ("great" : PySem.Str), Sum.inr ("left" : PySem.Str), Sum.inr ("turn" : PySem.Str), Sum.inr ("fold" : PySem.Str)] [(J.Slot.v (.ref p3)), (J.Slot.val (s5.1 : Int)), (J.Slot.val (s5.2.1 : Int)), (J.Slot.val (x1.2.2.2 : Int))])), (p3, (J.Cel.lst ((s5.2.2 : List Int).map J.Slot.val)))]⟩ : J.Stt)) (Sb := fun (q6 : Unit) (s5 : (Int × (Int × (List Int)))) (x7 : Int) => (⟨[(J.Slot.v (.ref p0)), (J.Slot.v (.ref p2)), (J.Slot.val (x7 : Int)), J.Slot.any, J.Slot.any, J.Slot.any, J.Slot.any, J.Slot.any, J.Slot.any, J.Slot.any, J.Slot.any, J.Slot.any], [(p2, (J.Cel.dk [Sum.inr ("great" : PySem.Str), Sum.inr ("left" : PySem.Str), Sum.inr ("turn" : PySem.Str), Sum.inr ("fold" : PySem.Str)] [(J.Slot.v (.ref p3)), (J.Slot.val (s5.1 : Int)), (J.Slot.val (s5.2.1 : Int)), (J.Slot.val (x1.2.2.2 : Int))])), (p3, (J.Cel.lst ((s5.2.2 : List Int).map J.Slot.val)))]⟩ : J.Stt)) ho40 (J.ji_rngG W.l_range (J.je_add J.je_int (J.je_min2 W.l_min J.je_int (J.je_len (n := "len") (xs := a0) W.l_len (J.je_var 0 rfl) (J.lv_pre hG)))) hx4) (fun _ _ _ _ g => ⟨(), J.le_fgt (sl := [(J.Slot.v (.ref p0)), (J.Slot.v (.ref p2)), J.Slot.any, J.Slot.any, J.Slot.any, J.Slot.any, J.Slot.any, J.Slot.any, J.Slot.any, J.Slot.any, J.Slot.any, J.Slot.any]) (cs := [(p2, (J.Cel.dk [Sum.inr ("great" : PySem.Str), Sum.inr ("left" : PySem.Str), Sum.inr ("turn" : PySem.Str), Sum.inr ("fold" : PySem.Str)] [(J.Slot.v (.ref p3)), (J.Slot.val ((x1.2.1, (x1.2.2.1, x1.1)).1 : Int)), (J.Slot.val ((x1.2.1, (x1.2.2.1, x1.1)).2.1 : Int)), (J.Slot.val (x1.2.2.2 : Int))])), (p3, (J.Cel.lst (((x1.2.1, (x1.2.2.1, x1.1)).2.2 : List Int).map J.Slot.val)))]) 2 (.keep (.keep (.drop (.drop (.drop (.drop (.drop (.drop (.drop (.drop (.drop (.drop .nil)))))))))))) rfl _ _ _ _ g⟩) (fun _ _ => trivial) (fun q6 s5 x7 => (J.jg_name 2 (hN := hN))) (fun q6 s5 x7 o9 _ h => ?_) (fun r e v H hv => by subst e; cases h; exact hv) (fun s39 e q6 => ?_)
  · unfold m_law_b3 at h
    change J.JS _ _ (⟨[(J.Slot.v (.ref p0)), (J.Slot.v (.ref p2)), (J.Slot.val (x7 : Int)), J.Slot.any, J.Slot.any, J.Slot.any, J.Slot.any, J.Slot.any, J.Slot.any, J.Slot.any, J.Slot.any, J.Slot.any], [(p2, (J.Cel.dk [Sum.inr ("great" : PySem.Str), Sum.inr ("left" : PySem.Str), Sum.inr ("turn" : PySem.Str), Sum.inr ("fold" : PySem.Str)] [(J.Slot.v (.ref p3)), (J.Slot.val (s5.1 : Int)), (J.Slot.val (s5.2.1 : Int)), (J.Slot.val (x1.2.2.2 : Int))])), (p3, (J.Cel.lst ((s5.2.2 : List Int).map J.Slot.val)))]⟩ : J.Stt) _ _
    obtain ⟨x8, hx8, h⟩ := J.bndE h
    refine J.js_set (hN := hN) 3 (J.je_frL (J.je_call (f := F_law_traces K) (ok_law_traces W) hr (by decide) W.g__law_traces W.F__law_traces.kp W.b__law_traces (J.ja_cons (J.je_var 1 rfl) (J.ja_cons J.je_int (J.ja_cons J.je_int J.ja_nil))) (g := (⟨p2, p3, 4, 14, s5.2.2, s5.1, s5.2.1, x1.2.2.2, x8⟩ : G_law_traces)) hx8 rfl (.cons 0 rfl (by nofun) (.cons 1 rfl (by nofun) .nil)) (.cons 0 rfl (.cons 1 rfl .nil)) (hG := fun G e => trivial))) ?_
    change J.JS _ _ (⟨[(J.Slot.v (.ref p0)), (J.Slot.v (.ref p2)), (J.Slot.val (x7 : Int)), (J.Slot.val (x8.1 : (List (List Int)))), J.Slot.any, J.Slot.any, J.Slot.any, J.Slot.any, J.Slot.any, J.Slot.any, J.Slot.any, J.Slot.any], [(p2, (J.Cel.dk [Sum.inr ("great" : PySem.Str), Sum.inr ("left" : PySem.Str), Sum.inr ("turn" : PySem.Str), Sum.inr ("fold" : PySem.Str)] [(J.Slot.v (.ref p3)), (J.Slot.val (x8.2.1 : Int)), (J.Slot.val (x8.2.2.1 : Int)), (J.Slot.val (x1.2.2.2 : Int))])), (p3, (J.Cel.lst ((x8.2.2.2 : List Int).map J.Slot.val)))]⟩ : J.Stt) _ _
    obtain ⟨x9, hx9, h⟩ := J.bndE h
    obtain ⟨x10, hx10, h⟩ := J.bndE h
    refine J.js_set (hN := hN) 4 (J.je_let (J.je_add (J.je_len (n := "len") (xs := x8.1) W.l_len (J.je_var 3 rfl) J.lv_val) (J.je_call (f := F_law_draw K) (ok_law_draw W) hr (by decide) W.g__law_draw W.F__law_draw.kp W.b__law_draw (J.ja_cons (J.je_var 1 rfl) (J.ja_cons J.je_int J.ja_nil)) (g := (⟨p2, p3, 6, x8.2.2.2, x8.2.1, x8.2.2.1, x1.2.2.2, x9⟩ : G_law_draw)) hx9 rfl (.cons 0 rfl (by nofun) (.cons 1 rfl (by nofun) .nil)) (.cons 0 rfl (.cons 1 rfl .nil)) (hG := fun G e => trivial))) hx10) ?_
    change J.JS _ _ (⟨[(J.Slot.v (.ref p0)), (J.Slot.v (.ref p2)), (J.Slot.val (x7 : Int)), (J.Slot.val (x8.1 : (List (List Int)))), (J.Slot.val (x10 : Int)), J.Slot.any, J.Slot.any, J.Slot.any, J.Slot.any, J.Slot.any, J.Slot.any, J.Slot.any], [(p2, (J.Cel.dk [Sum.inr ("great" : PySem.Str), Sum.inr ("left" : PySem.Str), Sum.inr ("turn" : PySem.Str), Sum.inr ("fold" : PySem.Str)] [(J.Slot.v (.ref p3)), (J.Slot.val (x9.2.1 : Int)), (J.Slot.val (x9.2.2.1 : Int)), (J.Slot.val (x1.2.2.2 : Int))])), (p3, (J.Cel.lst ((x9.2.2.2 : List Int).map J.Slot.val)))]⟩ : J.Stt) _ _
    obtain ⟨x11, hx11, h⟩ := J.bndE h
    refine J.js_set (hN := hN) 5 (J.je_frL (J.je_call (f := F_law_tables K) (ok_law_tables W) hr (by decide) W.g__law_tables W.F__law_tables.kp W.b__law_tables (J.ja_cons (J.je_var 3 rfl) (J.ja_cons (J.je_var 4 rfl) J.ja_nil)) (g := (⟨x8.1, x10, x11⟩ : G_law_tables)) hx11 rfl .nil .nil (hG := fun G e => trivial))) ?_
    change J.JS _ _ (⟨[(J.Slot.v (.ref p0)), (J.Slot.v (.ref p2)), (J.Slot.val (x7 : Int)), (J.Slot.val (x8.1 : (List (List Int)))), (J.Slot.val (x10 : Int)), (J.Slot.val (x11 : (List (List Int)))), J.Slot.any, J.Slot.any, J.Slot.any, J.Slot.any, J.Slot.any, J.Slot.any], [(p2, (J.Cel.dk [Sum.inr ("great" : PySem.Str), Sum.inr ("left" : PySem.Str), Sum.inr ("turn" : PySem.Str), Sum.inr ("fold" : PySem.Str)] [(J.Slot.v (.ref p3)), (J.Slot.val (x9.2.1 : Int)), (J.Slot.val (x9.2.2.1 : Int)), (J.Slot.val (x1.2.2.2 : Int))])), (p3, (J.Cel.lst ((x9.2.2.2 : List Int).map J.Slot.val)))]⟩ : J.Stt) _ _
    refine J.js_new (hN := hN) 6 (J.je_lstv (xs := ([] : List (Int × (List Int)))) J.ja_nil) fun p12 => ?_
    obtain ⟨x13, hx13, h⟩ := J.bndE h
    obtain ⟨s26, hs26, h⟩ := J.bndE h
    refine J.js_forE (π := Unit) (f := m_law_b1 x8 x11) (Sf := fun (q15 : Unit) (s14 : (List (Int × (List Int)))) => (⟨[(J.Slot.v (.ref p0)), (J.Slot.v (.ref p2)), (J.Slot.val (x7 : Int)), (J.Slot.val (x8.1 : (List (List Int)))), (J.Slot.val (x10 : Int)), (J.Slot.val (x11 : (List (List Int)))), (J.Slot.v (.ref p12)), J.Slot.any, J.Slot.any, J.Slot.any, J.Slot.any, J.Slot.any], [(p2, (J.Cel.dk [Sum.inr ("great" : PySem.Str), Sum.inr ("left" : PySem.Str), Sum.inr ("turn" : PySem.Str), Sum.inr ("fold" : PySem.Str)] [(J.Slot.v (.ref p3)), (J.Slot.val (x9.2.1 : Int)), (J.Slot.val (x9.2.2.1 : Int)), (J.Slot.val (x1.2.2.2 : Int))])), (p3, (J.Cel.lst ((x9.2.2.2 : List Int).map J.Slot.val))), (p12, (J.Cel.lst ((s14 : List (Int × (List Int))).map J.Slot.val)))]⟩ : J.Stt)) (Sb := fun (q15 : Unit) (s14 : (List (Int × (List Int)))) (x16 : (List Int)) => (⟨[(J.Slot.v (.ref p0)), (J.Slot.v (.ref p2)), (J.Slot.val (x7 : Int)), (J.Slot.val (x8.1 : (List (List Int)))), (J.Slot.val (x10 : Int)), (J.Slot.val (x11 : (List (List Int)))), (J.Slot.v (.ref p12)), (J.Slot.val (x16 : (List Int))), J.Slot.any, J.Slot.any, J.Slot.any, J.Slot.any], [(p2, (J.Cel.dk [Sum.inr ("great" : PySem.Str), Sum.inr ("left" : PySem.Str), Sum.inr ("turn" : PySem.Str), Sum.inr ("fold" : PySem.Str)] [(J.Slot.v (.ref p3)), (J.Slot.val (x9.2.1 : Int)), (J.Slot.val (x9.2.2.1 : Int)), (J.Slot.val (x1.2.2.2 : Int))])), (p3, (J.Cel.lst ((x9.2.2.2 : List Int).map J.Slot.val))), (p12, (J.Cel.lst ((s14 : List (Int × (List Int))).map J.Slot.val)))]⟩ : J.Stt)) hs26 (J.ji_val (xs := x13) (J.je_call (f := F_law_lists K) (ok_law_lists W) hr (by decide) W.g__law_lists W.F__law_lists.kp W.b__law_lists (J.ja_cons (J.je_len (n := "len") (xs := x8.1) W.l_len (J.je_var 3 rfl) J.lv_val) (J.ja_cons (J.je_var 4 rfl) J.ja_nil)) (g := (⟨((x8.1).length : Int), x10, x13⟩ : G_law_lists)) hx13 rfl .nil .nil (hG := fun G e => trivial))) (fun _ _ _ _ g => ⟨(), J.le_fgt (sl := [(J.Slot.v (.ref p0)), (J.Slot.v (.ref p2)), (J.Slot.val (x7 : Int)), (J.Slot.val (x8.1 : (List (List Int)))), (J.Slot.val (x10 : Int)), (J.Slot.val (x11 : (List (List Int)))), (J.Slot.v (.ref p12)), J.Slot.any, J.Slot.any, J.Slot.any, J.Slot.any, J.Slot.any]) (cs := [(p2, (J.Cel.dk [Sum.inr ("great" : PySem.Str), Sum.inr ("left" : PySem.Str), Sum.inr ("turn" : PySem.Str), Sum.inr ("fold" : PySem.Str)] [(J.Slot.v (.ref p3)), (J.Slot.val (x9.2.1 : Int)), (J.Slot.val (x9.2.2.1 : Int)), (J.Slot.val (x1.2.2.2 : Int))])), (p3, (J.Cel.lst ((x9.2.2.2 : List Int).map J.Slot.val))), (p12, (J.Cel.lst ((([] : List (Int × (List Int))) : List (Int × (List Int))).map J.Slot.val)))]) 3 (.keep (.keep (.keep (.keep (.keep (.keep (.keep (.drop (.drop (.drop (.drop (.drop .nil)))))))))))) rfl _ _ _ _ g⟩) (fun _ _ => trivial) (fun q15 s14 x16 => (J.jg_name 7 (hN := hN))) (fun q15 s14 x16 sY _ h => ?_) (fun q15 => ?_)
    · unfold m_law_b1 at h
      change J.JS _ _ (⟨[(J.Slot.v (.ref p0)), (J.Slot.v (.ref p2)), (J.Slot.val (x7 : Int)), (J.Slot.val (x8.1 : (List (List Int)))), (J.Slot.val (x10 : Int)), (J.Slot.val (x11 : (List (List Int)))), (J.Slot.v (.ref p12)), (J.Slot.val (x16 : (List Int))), J.Slot.any, J.Slot.any, J.Slot.any, J.Slot.any], [(p2, (J.Cel.dk [Sum.inr ("great" : PySem.Str), Sum.inr ("left" : PySem.Str), Sum.inr ("turn" : PySem.Str), Sum.inr ("fold" : PySem.Str)] [(J.Slot.v (.ref p3)), (J.Slot.val (x9.2.1 : Int)), (J.Slot.val (x9.2.2.1 : Int)), (J.Slot.val (x1.2.2.2 : Int))])), (p3, (J.Cel.lst ((x9.2.2.2 : List Int).map J.Slot.val))), (p12, (J.Cel.lst ((s14 : List (Int × (List Int))).map J.Slot.val)))]⟩ : J.Stt) _ _
      obtain ⟨x17, hx17, h⟩ := J.bndE h
      obtain ⟨x24, hx24, h⟩ := J.bndE h
      obtain ⟨x25, hx25, h⟩ := J.bndE h
      refine J.js_expr (J.je_appG (xs := s14) (t := (((x24.1).sum, x16) : (Int × (List Int)))) 2 (J.je_var 6 rfl) rfl (J.je_tup (t := (((x24.1).sum, x16) : (Int × (List Int)))) (J.ja_cons (J.je_sum (xs := x24.1) W.l_sum (J.je_lc (f := m_law_c0 x11 x16) (el := J.Slot.val) (Sf := fun (s18 : Unit) => (⟨[(J.Slot.v (.ref p0)), (J.Slot.v (.ref p2)), (J.Slot.val (x7 : Int)), (J.Slot.val (x8.1 : (List (List Int)))), (J.Slot.val (x10 : Int)), (J.Slot.val (x11 : (List (List Int)))), (J.Slot.v (.ref p12)), (J.Slot.val (x16 : (List Int))), J.Slot.any, J.Slot.any, J.Slot.any, J.Slot.any], [(p2, (J.Cel.dk [Sum.inr ("great" : PySem.Str), Sum.inr ("left" : PySem.Str), Sum.inr ("turn" : PySem.Str), Sum.inr ("fold" : PySem.Str)] [(J.Slot.v (.ref p3)), (J.Slot.val (x9.2.1 : Int)), (J.Slot.val (x9.2.2.1 : Int)), (J.Slot.val (x1.2.2.2 : Int))])), (p3, (J.Cel.lst ((x9.2.2.2 : List Int).map J.Slot.val))), (p12, (J.Cel.lst ((s14 : List (Int × (List Int))).map J.Slot.val)))]⟩ : J.Stt)) (Sb := fun (s18 : Unit) (x20 : Int) => (⟨[(J.Slot.v (.ref p0)), (J.Slot.v (.ref p2)), (J.Slot.val (x7 : Int)), (J.Slot.val (x8.1 : (List (List Int)))), (J.Slot.val (x10 : Int)), (J.Slot.val (x11 : (List (List Int)))), (J.Slot.v (.ref p12)), (J.Slot.val (x16 : (List Int))), J.Slot.any, J.Slot.any, J.Slot.any, (J.Slot.val (x20 : Int))], [(p2, (J.Cel.dk [Sum.inr ("great" : PySem.Str), Sum.inr ("left" : PySem.Str), Sum.inr ("turn" : PySem.Str), Sum.inr ("fold" : PySem.Str)] [(J.Slot.v (.ref p3)), (J.Slot.val (x9.2.1 : Int)), (J.Slot.val (x9.2.2.1 : Int)), (J.Slot.val (x1.2.2.2 : Int))])), (p3, (J.Cel.lst ((x9.2.2.2 : List Int).map J.Slot.val))), (p12, (J.Cel.lst ((s14 : List (Int × (List Int))).map J.Slot.val)))]⟩ : J.Stt)) (s0 := ()) (own := [(("k" : PySem.Str), 11)]) (ws := [11]) (J.lcM_of hx24).2 (J.lcM_of hx24).1 hN (L2.blkOk_by (N := ["script", "bag", "turn", "lot", "there", "tables", "costs", "one", "handed", "found", "trace", "k"]) (sc := defScope s_law) (by decide +kernel)) (J.ji_rngG W.l_range (J.je_len (n := "len") (xs := x8.1) W.l_len (J.je_var 3 rfl) J.lv_val) hx17) (J.le_fgt 3 (.keep (.keep (.keep (.keep (.keep (.keep (.keep (.keep (.drop (.drop (.drop (.drop .nil)))))))))))) rfl) (fun _ => trivial) (fun _ => J.any_at rfl) (by decide) (fun s18 x20 => fun s1 H1 C1 cl1 fp1 =>  J.inJG hN fun hN => (J.jg_name 11 (hN := hN))) (fun s18 x20 o sZ _ h => by
      unfold m_law_c0 at h
      obtain ⟨x21, hx21, h⟩ := J.bndE h
      obtain ⟨x22, hx22, h⟩ := J.bndE h
      obtain ⟨x23, hx23, h⟩ := J.bndE h
      obtain ⟨h8, h9⟩ := Prod.mk.inj (Option.some.inj h)
      subst h8
      subst h9
      exact ⟨true, _, (fun s1 H1 C1 cl1 fp1 =>  J.jts_nil), fun _ => ⟨_, _, rfl, (fun s1 H1 C1 cl1 fp1 =>  J.inJE hr hN fun hr hN => (J.je_ixv (xs := x21) (J.je_ixv (xs := x11) (J.je_var 5 rfl) (J.je_var 11 rfl) J.lv_val hx21) (J.je_sub (J.je_ixv (xs := x16) (J.je_var 7 rfl) (J.je_var 11 rfl) J.lv_val hx22) J.je_int) J.lv_val hx23)), (J.le_fgt 3 (.keep (.keep (.keep (.keep (.keep (.keep (.keep (.keep (.drop (.drop (.drop (.drop .nil)))))))))))) rfl)⟩, nofun⟩)) J.lv_own') (J.ja_cons (J.je_var 7 rfl) J.ja_nil)) (J.SlDs.cons J.sld_val (J.SlDs.cons J.sld_val J.SlDs.nil)) rfl (Nat.le_of_ble_eq_true rfl)) rfl hx25) ?_
      have h9 := Option.some.inj h
      subst h9
      exact J.js_nil fun T tv σ H g => ⟨(), J.le_fgt (sl := [(J.Slot.v (.ref p0)), (J.Slot.v (.ref p2)), (J.Slot.val (x7 : Int)), (J.Slot.val (x8.1 : (List (List Int)))), (J.Slot.val (x10 : Int)), (J.Slot.val (x11 : (List (List Int)))), (J.Slot.v (.ref p12)), J.Slot.any, J.Slot.any, J.Slot.any, J.Slot.any, J.Slot.any]) (cs := [(p2, (J.Cel.dk [Sum.inr ("great" : PySem.Str), Sum.inr ("left" : PySem.Str), Sum.inr ("turn" : PySem.Str), Sum.inr ("fold" : PySem.Str)] [(J.Slot.v (.ref p3)), (J.Slot.val (x9.2.1 : Int)), (J.Slot.val (x9.2.2.1 : Int)), (J.Slot.val (x1.2.2.2 : Int))])), (p3, (J.Cel.lst ((x9.2.2.2 : List Int).map J.Slot.val))), (p12, (J.Cel.lst ((x25 : List (Int × (List Int))).map J.Slot.val)))]) 3 (.keep (.keep (.keep (.keep (.keep (.keep (.keep (.drop (.drop (.drop (.drop (.drop .nil)))))))))))) rfl _ _ _ _ g⟩
    change J.JS _ _ (⟨[(J.Slot.v (.ref p0)), (J.Slot.v (.ref p2)), (J.Slot.val (x7 : Int)), (J.Slot.val (x8.1 : (List (List Int)))), (J.Slot.val (x10 : Int)), (J.Slot.val (x11 : (List (List Int)))), (J.Slot.v (.ref p12)), J.Slot.any, J.Slot.any, J.Slot.any, J.Slot.any, J.Slot.any], [(p2, (J.Cel.dk [Sum.inr ("great" : PySem.Str), Sum.inr ("left" : PySem.Str), Sum.inr ("turn" : PySem.Str), Sum.inr ("fold" : PySem.Str)] [(J.Slot.v (.ref p3)), (J.Slot.val (x9.2.1 : Int)), (J.Slot.val (x9.2.2.1 : Int)), (J.Slot.val (x1.2.2.2 : Int))])), (p3, (J.Cel.lst ((x9.2.2.2 : List Int).map J.Slot.val))), (p12, (J.Cel.lst ((s26 : List (Int × (List Int))).map J.Slot.val)))]⟩ : J.Stt) _ _
    obtain ⟨x30, hx30, h⟩ := J.bndE h
    refine J.js_newLc 8 (f := m_law_c2) (el := fun (z9 : List Int) => J.Slot.own (J.intsC z9)) (Sf := fun (s27 : Unit) => (⟨[(J.Slot.v (.ref p0)), (J.Slot.v (.ref p2)), (J.Slot.val (x7 : Int)), (J.Slot.val (x8.1 : (List (List Int)))), (J.Slot.val (x10 : Int)), (J.Slot.val (x11 : (List (List Int)))), (J.Slot.v (.ref p12)), J.Slot.any, J.Slot.any, J.Slot.any, J.Slot.any, J.Slot.any], [(p2, (J.Cel.dk [Sum.inr ("great" : PySem.Str), Sum.inr ("left" : PySem.Str), Sum.inr ("turn" : PySem.Str), Sum.inr ("fold" : PySem.Str)] [(J.Slot.v (.ref p3)), (J.Slot.val (x9.2.1 : Int)), (J.Slot.val (x9.2.2.1 : Int)), (J.Slot.val (x1.2.2.2 : Int))])), (p3, (J.Cel.lst ((x9.2.2.2 : List Int).map J.Slot.val))), (p12, (J.Cel.lst ((s26 : List (Int × (List Int))).map J.Slot.val)))]⟩ : J.Stt)) (Sb := fun (s27 : Unit) (x29 : (List Int)) => (⟨[(J.Slot.v (.ref p0)), (J.Slot.v (.ref p2)), (J.Slot.val (x7 : Int)), (J.Slot.val (x8.1 : (List (List Int)))), (J.Slot.val (x10 : Int)), (J.Slot.val (x11 : (List (List Int)))), (J.Slot.v (.ref p12)), J.Slot.any, J.Slot.any, J.Slot.any, (J.Slot.val (x29 : (List Int))), J.Slot.any], [(p2, (J.Cel.dk [Sum.inr ("great" : PySem.Str), Sum.inr ("left" : PySem.Str), Sum.inr ("turn" : PySem.Str), Sum.inr ("fold" : PySem.Str)] [(J.Slot.v (.ref p3)), (J.Slot.val (x9.2.1 : Int)), (J.Slot.val (x9.2.2.1 : Int)), (J.Slot.val (x1.2.2.2 : Int))])), (p3, (J.Cel.lst ((x9.2.2.2 : List Int).map J.Slot.val))), (p12, (J.Cel.lst ((s26 : List (Int × (List Int))).map J.Slot.val)))]⟩ : J.Stt)) (s0 := ()) (own := [(("trace" : PySem.Str), 10)]) (ws := [10]) (J.lcM_of hx30).2 (J.lcM_of hx30).1 hN (L2.blkOk_by (N := ["script", "bag", "turn", "lot", "there", "tables", "costs", "one", "handed", "found", "trace", "k"]) (sc := defScope s_law) (by decide +kernel)) (J.ji_val (xs := x8.1) (J.je_var 3 rfl)) (J.le_fgt 3 (.keep (.keep (.keep (.keep (.keep (.keep (.keep (.drop (.drop (.drop (.drop (.drop .nil)))))))))))) rfl) (fun _ => trivial) (fun _ => J.any_at rfl) (by decide) (fun s27 x29 => fun s1 H1 C1 cl1 fp1 =>  J.inJG hN fun hN => (J.jg_name 10 (hN := hN))) (fun s27 x29 o sZ _ h => by
      unfold m_law_c2 at h
      obtain ⟨h8, h9⟩ := Prod.mk.inj (Option.some.inj h)
      subst h8
      subst h9
      exact ⟨true, _, (fun s1 H1 C1 cl1 fp1 =>  J.jts_nil), fun _ => ⟨_, _, rfl, (fun s1 H1 C1 cl1 fp1 =>  J.inJE hr hN fun hr hN => (J.je_list (ss := (x29 : List Int).map J.Slot.val) W.l_list (J.je_var 10 rfl) J.lv_val)), (J.le_fgt 3 (.keep (.keep (.keep (.keep (.keep (.keep (.keep (.drop (.drop (.drop (.drop (.drop .nil)))))))))))) rfl)⟩, nofun⟩) fun p31 => ?_
    change J.JS _ _ (⟨[(J.Slot.v (.ref p0)), (J.Slot.v (.ref p2)), (J.Slot.val (x7 : Int)), (J.Slot.val (x8.1 : (List (List Int)))), (J.Slot.val (x10 : Int)), (J.Slot.val (x11 : (List (List Int)))), (J.Slot.v (.ref p12)), J.Slot.any, (J.Slot.v (.ref p31)), J.Slot.any, J.Slot.any, J.Slot.any], [(p2, (J.Cel.dk [Sum.inr ("great" : PySem.Str), Sum.inr ("left" : PySem.Str), Sum.inr ("turn" : PySem.Str), Sum.inr ("fold" : PySem.Str)] [(J.Slot.v (.ref p3)), (J.Slot.val (x9.2.1 : Int)), (J.Slot.val (x9.2.2.1 : Int)), (J.Slot.val (x1.2.2.2 : Int))])), (p3, (J.Cel.lst ((x9.2.2.2 : List Int).map J.Slot.val))), (p12, (J.Cel.lst ((s26 : List (Int × (List Int))).map J.Slot.val))), (p31, (J.mlC J.intsC (x30.1 : List (List Int))))]⟩ : J.Stt) _ _
    obtain ⟨x32, hx32, h⟩ := J.bndE h
    refine J.js_new (hN := hN) 9 (J.je_callW (f := F_deal K) (ok_deal W) hr (by decide) W.g_deal W.F_deal.kp W.b_deal (J.ja_cons (J.je_var 8 rfl) (J.ja_cons (J.je_var 4 rfl) J.ja_nil)) (g := (⟨p31, x10, x30.1, x32⟩ : G_deal)) hx32 rfl (.cons 3 rfl (by nofun) .nil) (.cons 3 rfl .nil) rfl (.cons J.als_v (.cons J.als_int .nil)) (.cons J.alc_ml .nil) (.cons J.alc_ml .nil) (hG := fun G => trivial)) fun p33 => ?_
    obtain ⟨x35, hx35, h⟩ := J.bndE h
    refine J.js_if (J.JW.t (J.jw_orM hx35 (J.jt_not (J.jt_bl (J.je_isiG (r := true) W.l_isinstance (J.je_var 9 rfl) (J.je_bty W.l_list PyProof.Rows.boot_list) (J.ty_lst (J.lh_cell 4 rfl))))) fun _ r h => by
      obtain ⟨x34, hx34, h⟩ := J.bndE h
      have h9 := Option.some.inj h
      subst h9
      exact (J.jw_or (J.jt_ne' (t := (x32 : (List Int))) (r := (x34.2 : (List Int))) hr (J.je_var 9 rfl) (J.je_tpix (t := (x34 : (Int × (List Int)))) (r := (x34.2 : (List Int))) (J.je_minG (xs := s26) hr W.l_min (J.je_var 6 rfl) (J.lv_cell' 2 rfl) hx34) J.je_int rfl rfl) (J.dv_cellL 4 rfl) J.dv_val) fun _ => (J.jw_or1 (J.jt_lend 3 8 rfl rfl (fun B9 => (J.jt_ne' (t := (x30.1 : (List (List Int)))) (r := (x8.1 : (List (List Int)))) hr (J.je_var 8 rfl) (J.je_var 3 rfl) J.dv_val J.dv_val))))))) (fun hp => ?_) (fun hp => ?_)
    · replace h := J.ifT hp h
      have h9 := Option.some.inj h
      subst h9
      exact J.js_ret J.je_bl fun v H o => ⟨_, rfl, J.Out.take 0 o⟩
    · replace h := J.ifF hp h
      refine J.js_end ?_
      change J.JS _ _ (⟨[(J.Slot.v (.ref p0)), (J.Slot.v (.ref p2)), (J.Slot.val (x7 : Int)), (J.Slot.val (x8.1 : (List (List Int)))), (J.Slot.val (x10 : Int)), (J.Slot.val (x11 : (List (List Int)))), (J.Slot.v (.ref p12)), J.Slot.any, (J.Slot.v (.ref p31)), (J.Slot.v (.ref p33)), J.Slot.any, J.Slot.any], [(p2, (J.Cel.dk [Sum.inr ("great" : PySem.Str), Sum.inr ("left" : PySem.Str), Sum.inr ("turn" : PySem.Str), Sum.inr ("fold" : PySem.Str)] [(J.Slot.v (.ref p3)), (J.Slot.val (x9.2.1 : Int)), (J.Slot.val (x9.2.2.1 : Int)), (J.Slot.val (x1.2.2.2 : Int))])), (p3, (J.Cel.lst ((x9.2.2.2 : List Int).map J.Slot.val))), (p12, (J.Cel.lst ((s26 : List (Int × (List Int))).map J.Slot.val))), (p31, (J.mlC J.intsC (x30.1 : List (List Int)))), (p33, (J.Cel.lst ((x32 : List Int).map J.Slot.val)))]⟩ : J.Stt) _ _
      obtain ⟨x36, hx36, h⟩ := J.bndE h
      refine J.js_expr (J.je_appG (xs := x32) (t := (1 : Int)) 4 (J.je_var 9 rfl) rfl J.je_int rfl hx36) ?_
      obtain ⟨x37, hx37, h⟩ := J.bndE h
      obtain ⟨x38, hx38, h⟩ := J.bndE h
      refine J.js_if (J.jt_ne' (t := (x37 : (List Int))) (r := (x38.2 : (List Int))) hr (J.je_callK (f := F_deal K) (ok_deal W) hr (by decide) W.g_deal W.F_deal.kp (kb_deal_0 W) (J.jk_cons (J.je_var 4 rfl) (J.jk_cons (J.je_var 8 rfl) J.jk_nil)) (g := (⟨p31, x10, x30.1, x37⟩ : G_deal)) hx37 rfl (fun {T} {σ} {vs} {tv} {H} hl h => by
      match vs, hl, h with
      | [v1, v0], _, h =>
        have h := J.Sta.rot (xs := [_]) (T := [] ++ T) (vs := [v1]) (u := v0) (tv := [] ++ tv) rfl h
        exact ⟨rfl, h⟩) (.cons 3 rfl (by nofun) .nil) (.cons 3 rfl .nil) (hG := fun G e => trivial)) (J.je_tpix (t := (x38 : (Int × (List Int)))) (r := (x38.2 : (List Int))) (J.je_minG (xs := s26) hr W.l_min (J.je_var 6 rfl) (J.lv_cell' 2 rfl) hx38) J.je_int rfl rfl) J.dv_val J.dv_val) (fun hp => ?_) (fun hp => ?_)
      · replace h := J.ifT hp h
        have h9 := Option.some.inj h
        subst h9
        exact J.js_ret J.je_bl fun v H o => ⟨_, rfl, J.Out.take 0 o⟩
      · replace h := J.ifF hp h
        refine J.js_end ?_
        change J.JS _ _ (⟨[(J.Slot.v (.ref p0)), (J.Slot.v (.ref p2)), (J.Slot.val (x7 : Int)), (J.Slot.val (x8.1 : (List (List Int)))), (J.Slot.val (x10 : Int)), (J.Slot.val (x11 : (List (List Int)))), (J.Slot.v (.ref p12)), J.Slot.any, (J.Slot.v (.ref p31)), (J.Slot.v (.ref p33)), J.Slot.any, J.Slot.any], [(p2, (J.Cel.dk [Sum.inr ("great" : PySem.Str), Sum.inr ("left" : PySem.Str), Sum.inr ("turn" : PySem.Str), Sum.inr ("fold" : PySem.Str)] [(J.Slot.v (.ref p3)), (J.Slot.val (x9.2.1 : Int)), (J.Slot.val (x9.2.2.1 : Int)), (J.Slot.val (x1.2.2.2 : Int))])), (p3, (J.Cel.lst ((x9.2.2.2 : List Int).map J.Slot.val))), (p12, (J.Cel.lst ((s26 : List (Int × (List Int))).map J.Slot.val))), (p31, (J.mlC J.intsC (x30.1 : List (List Int)))), (p33, (J.Cel.lst ((x36 : List Int).map J.Slot.val)))]⟩ : J.Stt) _ _
        have h9 := Option.some.inj h
        subst h9
        exact J.js_nil fun T tv σ H g => ⟨_, rfl, (), J.le_fgt (sl := [(J.Slot.v (.ref p0)), (J.Slot.v (.ref p2)), J.Slot.any, J.Slot.any, J.Slot.any, J.Slot.any, J.Slot.any, J.Slot.any, J.Slot.any, J.Slot.any, J.Slot.any, J.Slot.any]) (cs := [(p2, (J.Cel.dk [Sum.inr ("great" : PySem.Str), Sum.inr ("left" : PySem.Str), Sum.inr ("turn" : PySem.Str), Sum.inr ("fold" : PySem.Str)] [(J.Slot.v (.ref p3)), (J.Slot.val ((x9.2.1, (x9.2.2.1, x9.2.2.2)).1 : Int)), (J.Slot.val ((x9.2.1, (x9.2.2.1, x9.2.2.2)).2.1 : Int)), (J.Slot.val (x1.2.2.2 : Int))])), (p3, (J.Cel.lst (((x9.2.1, (x9.2.2.1, x9.2.2.2)).2.2 : List Int).map J.Slot.val)))]) 2 (.keep (.keep (.drop (.drop (.drop (.drop (.drop (.drop (.drop (.drop (.drop (.drop .nil)))))))))))) rfl _ _ _ _ g⟩
  · subst e
    try rw [Sum.elim_inl] at h
    change J.JS _ _ (⟨[(J.Slot.v (.ref p0)), (J.Slot.v (.ref p2)), J.Slot.any, J.Slot.any, J.Slot.any, J.Slot.any, J.Slot.any, J.Slot.any, J.Slot.any, J.Slot.any, J.Slot.any, J.Slot.any], [(p2, (J.Cel.dk [Sum.inr ("great" : PySem.Str), Sum.inr ("left" : PySem.Str), Sum.inr ("turn" : PySem.Str), Sum.inr ("fold" : PySem.Str)] [(J.Slot.v (.ref p3)), (J.Slot.val (s39.1 : Int)), (J.Slot.val (s39.2.1 : Int)), (J.Slot.val (x1.2.2.2 : Int))])), (p3, (J.Cel.lst ((s39.2.2 : List Int).map J.Slot.val)))]⟩ : J.Stt) _ _
    have h9 := Option.some.inj h
    subst h9
    exact J.js_ret J.je_bl fun v H o => J.Out.take 0 o
end
end Gk53
namespace J
universe u w
/-! ### plain Lean: what is told by some -/
def Tot {α : Type u} (m : Option α) (P : α → Prop) : Prop := ∃ r, m = some r ∧ P r
theorem tot_some {α : Type u} {x : α} {P : α → Prop} (h : P x) : Tot (some x) P := ⟨x, rfl, h⟩
theorem tot_bind {α : Type u} {β : Type w} {m : Option α} {f : α → Option β} {P : α → Prop} {Q : β → Prop} (h : Tot m P) (k : ∀ x, P x → Tot (f x) Q) : Tot (m.bind f) Q := by
  obtain ⟨r, rfl, hr⟩ := h
  exact k r hr
theorem tot_let {α : Type u} {β : Type w} {x : α} {f : α → Option β} {Q : β → Prop} (h : Tot (f x) Q) : Tot ((some x).bind f) Q := h
theorem tot_ite {α : Type u} {c : Bool} {a b : Option α} {P : α → Prop} (h1 : c = true → Tot a P) (h2 : c = false → Tot b P) : Tot (if c = true then a else b) P := by
  cases c with
  | true => exact h1 rfl
  | false => exact h2 rfl
theorem cmpM_cons {ι α β : Type} {f : ι → α → Option (Option β × ι)} {x : α} {xs : List α} {s : ι} : cmpM f (x :: xs) s = (f s x).bind fun r => (cmpM f xs r.2).bind fun q => some ((match r.1 with | some y => y :: q.1 | none => q.1), q.2) := by
  show Option.bind (f s x) _ = _
  cases f s x with
  | none => rfl
  | some r =>
    obtain ⟨o, s'⟩ := r
    show Option.bind (cmpM f xs s') _ = Option.bind (cmpM f xs s') _
    cases cmpM f xs s' with
    | none => rfl
    | some q =>
      obtain ⟨ys, s2⟩ := q
      cases o <;> rfl
theorem cmpM_fm {α β : Type} {f : Unit → α → Option (Option β × Unit)} {g : α → Option β} : ∀ {xs : List α}, (∀ x ∈ xs, f () x = some (g x, ())) → cmpM f xs () = some (xs.filterMap g, ())
  | [], _ => rfl
  | x :: xs, h => by
    rw [cmpM_cons, h x List.mem_cons_self]
    show (cmpM f xs ()).bind _ = _
    rw [cmpM_fm fun y hy => h y (List.mem_cons_of_mem _ hy), List.filterMap_cons]
    cases e : g x with
    | none => simp [e]
    | some y => simp [e]
theorem lcM_fm {α β : Type} {f : Unit → α → Option (Option β × Unit)} {g : α → Option β} {xs : List α} (h : ∀ x ∈ xs, f () x = some (g x, ())) (hl : xs.length ≤ 16777216) : lcM f xs () = some (xs.filterMap g, ()) := by
  unfold lcM
  rw [if_pos hl, cmpM_fm h]
theorem lcM_map {α β : Type} {f : Unit → α → Option (Option β × Unit)} {g : α → β} {xs : List α} (h : ∀ x ∈ xs, f () x = some (some (g x), ())) (hl : xs.length ≤ 16777216) : lcM f xs () = some (xs.map g, ()) := by
  rw [lcM_fm (g := fun x => some (g x)) h hl]
  congr 2
  induction xs with
  | nil => rfl
  | cons x xs ih => rw [List.filterMap_cons]; simp
theorem lcM_filter {α : Type} {f : Unit → α → Option (Option α × Unit)} {p : α → Bool} {xs : List α} (h : ∀ x ∈ xs, f () x = some (if p x = true then some x else none, ())) (hl : xs.length ≤ 16777216) : lcM f xs () = some (xs.filter p, ()) := by
  rw [lcM_fm (g := fun x => if p x = true then some x else none) h hl]
  congr 2
  clear h hl
  induction xs with
  | nil => rfl
  | cons x xs ih =>
    rw [List.filterMap_cons, List.filter_cons, ← ih]
    by_cases e : p x = true
    · simp [e]
    · simp [e]
/-! the guarded ones -/
theorem psh_ok {α : Type u} {xs : List α} {x : α} (h : xs.length < 16777216) : psh xs x = some (xs ++ [x]) := if_pos h
theorem catG_ok {α : Type} {xs ys : List α} (h : xs.length + ys.length ≤ 16777216) : catG xs ys = some (xs ++ ys) := if_pos h
theorem mulG_ok {i j : Int} (h : (-(18446744073709551616) < i ∧ i < 18446744073709551616) ∨ (-(18446744073709551616) < j ∧ j < 18446744073709551616)) : mulG i j = some (i * j) := if_pos h
theorem divG_ok {i j : Int} (h : 0 < j ∧ j < 18446744073709551616) : divG i j = some (i / j) := if_pos h
theorem modG_ok {i j : Int} (h : 0 < j) : modG i j = some (i % j) := if_pos h
theorem powG_ok {i : Int} {n : Nat} (h : i.natAbs < 18446744073709551616) : powG i n = some (i ^ n) := if_pos h
theorem rngG_ok {j : Int} (h : -(4611686018427387904 : Int) ≤ j ∧ j < 4611686018427387904) : rngG j = some (rng 0 j.toNat) := if_pos h
theorem rngG2_ok {i j : Int} (h : (-(4611686018427387904 : Int) ≤ i ∧ i < 4611686018427387904) ∧ -(4611686018427387904 : Int) ≤ j ∧ j < 4611686018427387904) : rngG2 i j = some (rng i (j - i).toNat) := if_pos h
theorem remG_ok {α : Type} [DecidableEq α] {xs : List α} {t : α} (h : t ∈ xs) : remG xs t = some (xs.eraseIdx (xs.idxOf t)) := if_pos h
theorem idxG_ok {α : Type} [DecidableEq α] {xs : List α} {t : α} (h : t ∈ xs) : idxG xs t = some ((xs.idxOf t : Nat) : Int) := if_pos h
theorem gx_nat {α : Type u} {xs : List α} {i : Int} (h0 : 0 ≤ i) : gx xs i = xs[i.toNat]? := if_pos h0
theorem gx_ok {α : Type u} {xs : List α} {i : Int} (h : -(xs.length : Int) ≤ i ∧ i < xs.length) : ∃ t ∈ xs, gx xs i = some t := by
  unfold gx
  by_cases h0 : 0 ≤ i
  · rw [if_pos h0]
    have hl : i.toNat < xs.length := by omega
    exact ⟨xs[i.toNat], List.getElem_mem hl, List.getElem?_eq_getElem hl⟩
  · rw [if_neg h0, if_pos h.1]
    have hl : (i + xs.length).toNat < xs.length := by omega
    exact ⟨xs[(i + xs.length).toNat], List.getElem_mem hl, List.getElem?_eq_getElem hl⟩
theorem rng_mem {lo : Int} {n : Nat} {x : Int} (h : x ∈ rng lo n) : lo ≤ x ∧ x < lo + n := by
  unfold rng at h
  obtain ⟨i, hi, rfl⟩ := List.mem_map.mp h
  have := List.mem_range.mp hi
  omega
/-! .. with how many turns there are -/
theorem tot_forB {ι α : Type} {f : ι → α → Option ι} (I : Nat → ι → Prop) (K : Nat) : ∀ {xs : List α} {k : Nat} {s : ι}, I k s → k + xs.length = K → (∀ k s x, x ∈ xs → k < K → I k s → Tot (f s x) (I (k + 1))) → Tot (forM f xs s) (I K)
  | [], k, s, h, e, _ => ⟨s, rfl, by have : k = K := e; subst this; exact h⟩
  | x :: xs, k, s, h, e, hf => by
    simp only [List.length_cons] at e
    show Tot ((f s x).bind (forM f xs)) _
    refine tot_bind (hf k s x List.mem_cons_self (by omega) h) fun s' h' => ?_
    exact tot_forB I K (xs := xs) h' (by omega) fun k s y hy => hf k s y (List.mem_cons_of_mem _ hy)
theorem tot_cmpB {ι α β : Type} {f : ι → α → Option (Option β × ι)} (I : Nat → ι → Prop) (R : α → β → Prop) (K : Nat) : ∀ {xs : List α} {k : Nat} {s : ι}, I k s → k + xs.length = K → (∀ k s x, x ∈ xs → k < K → I k s → Tot (f s x) fun r => (∃ y, r.1 = some y ∧ R x y) ∧ I (k + 1) r.2) → Tot (cmpM f xs s) fun r => r.1.length = xs.length ∧ (∀ y ∈ r.1, ∃ x ∈ xs, R x y) ∧ I K r.2
  | [], k, s, h, e, _ => ⟨([], s), rfl, rfl, (fun y hy => by simp at hy), by have : k = K := e; subst this; exact h⟩
  | x :: xs, k, s, h, e, hf => by
    simp only [List.length_cons] at e
    rw [cmpM_cons]
    refine tot_bind (hf k s x List.mem_cons_self (by omega) h) fun r hr => ?_
    obtain ⟨⟨y, hy, hR⟩, hI⟩ := hr
    refine tot_bind (tot_cmpB I R K (xs := xs) hI (by omega) fun k s y hy => hf k s y (List.mem_cons_of_mem _ hy)) fun q hq => ?_
    obtain ⟨h1, h2, h3⟩ := hq
    refine tot_some ⟨?_, ?_, h3⟩
    · rw [hy]
      simp [h1]
    · intro z hz
      rw [hy] at hz
      rcases List.mem_cons.mp hz with rfl | hz
      · exact ⟨x, List.mem_cons_self, hR⟩
      · obtain ⟨x', hx', hr⟩ := h2 z hz
        exact ⟨x', List.mem_cons_of_mem _ hx', hr⟩
theorem tot_lcB {ι α β : Type} {f : ι → α → Option (Option β × ι)} (I : Nat → ι → Prop) (R : α → β → Prop) {xs : List α} {s : ι} (h : I 0 s) (hl : xs.length ≤ 16777216) (hf : ∀ k s x, x ∈ xs → k < xs.length → I k s → Tot (f s x) fun r => (∃ y, r.1 = some y ∧ R x y) ∧ I (k + 1) r.2) : Tot (lcM f xs s) fun r => r.1.length = xs.length ∧ (∀ y ∈ r.1, ∃ x ∈ xs, R x y) ∧ I xs.length r.2 := by
  unfold lcM
  rw [if_pos hl]
  exact tot_cmpB I R xs.length h (Nat.zero_add _) hf
/-! the law's own call -/
section
open PySem L2
theorem sta0 {H : Hp} {a : Addr} : Sta ⟨H, H⟩ ⟨[], []⟩ [.v (.ref a)] [] [.ref a] H :=
  ⟨H, [], [], { tmp := .cons .v .nil, cel := .nil, slo := ⟨rfl, fun i s hs => by simp at hs⟩, nod := List.nodup_nil, fre := (fun a ha => nomatch ha), gro := Ex.refl H, new := fun a o h => .inl h, sub := Ex.refl H, frm := Ex.refl H }⟩
theorem out_true {B : Base} {cs : List (Addr × Cel)} {v : V} {H : Hp} (h : Out B (.val true) cs v H) : v = .bl true := Sta.bool h
end
end J
namespace J
/-! ### plain: sets, dicts, the farthest page -/
theorem idx_of {xs : List Int} (hn : xs.Nodup) {j : Nat} {p : Int} (h : xs[j]? = some p) : xs.idxOf p = j := by
  obtain ⟨hj, e⟩ := List.getElem?_eq_some_iff.mp h
  have hm : p ∈ xs := e ▸ List.getElem_mem hj
  have hlt : xs.idxOf p < xs.length := List.idxOf_lt_length_iff.mpr hm
  have e2 : xs[xs.idxOf p] = p := List.getElem_idxOf hlt
  exact (List.getElem_inj hn).mp (e2.trans e.symm)
theorem dget_put {β : Type} {m : List (Int × β)} {k q : Int} {v : β} : dget (dput m k v) q = if q = k then some v else dget m q := by
  unfold dput
  by_cases c : (m.any fun q => decide (q.1 = k)) = true
  · rw [if_pos c]
    induction m with
    | nil => simp at c
    | cons x m ih =>
      rw [List.map_cons]
      unfold dget
      rw [List.find?_cons, List.find?_cons]
      by_cases e : x.1 = k
      · rw [if_pos e]
        dsimp only
        by_cases e2 : q = k
        · rw [if_pos e2, decide_eq_true (by rw [e, e2])]
          rfl
        · rw [if_neg e2, decide_eq_false (show ¬ x.1 = q from fun h => e2 (h ▸ e))]
          dsimp only
          clear ih c
          congr 1
          induction m with
          | nil => rfl
          | cons y m ih =>
            rw [List.map_cons, List.find?_cons, List.find?_cons]
            by_cases e3 : y.1 = k
            · rw [if_pos e3]
              dsimp only
              rw [decide_eq_false (show ¬ y.1 = q from fun h => e2 (h ▸ e3))]
              exact ih
            · rw [if_neg e3]
              cases decide (y.1 = q)
              · exact ih
              · rfl
      · rw [if_neg e]
        have c2 : (m.any fun q => decide (q.1 = k)) = true := by
          rw [List.any_cons, decide_eq_false e, Bool.false_or] at c
          exact c
        by_cases e2 : x.1 = q
        · rw [decide_eq_true e2, if_neg (fun h => e (by rw [e2, h]))]
        · rw [decide_eq_false e2]
          exact ih c2
  · rw [if_neg c]
    have hn : ∀ x ∈ m, x.1 ≠ k := fun x hx e => c (List.any_eq_true.mpr ⟨x, hx, decide_eq_true e⟩)
    unfold dget
    rw [List.find?_append]
    by_cases e2 : q = k
    · rw [if_pos e2]
      have : m.find? (fun x => decide (x.1 = q)) = none := List.find?_eq_none.mpr fun x hx => by
        rw [decide_eq_true_eq, e2]
        exact hn x hx
      rw [this]
      subst e2
      simp
    · rw [if_neg e2]
      have : [(k, v)].find? (fun x => decide (x.1 = q)) = none := List.find?_eq_none.mpr fun x hx => by
        rw [List.mem_singleton.mp hx, decide_eq_true_eq]
        exact fun h => e2 h.symm
      rw [this]
      cases m.find? (fun x => decide (x.1 = q)) <;> rfl
theorem dput_len {β : Type} {m : List (Int × β)} {k : Int} {v : β} : (dput m k v).length ≤ m.length + 1 := by
  unfold dput
  split
  · rw [List.length_map]; omega
  · rw [List.length_append]; simp
theorem dget_drop {β : Type} {m : List (Int × β)} {g q : Int} : dget (ddrop m g) q = if q = g then none else dget m q := by
  unfold ddrop dget
  rw [List.find?_filter]
  by_cases e : q = g
  · rw [if_pos e, List.find?_eq_none.mpr fun x _ => by
      rw [decide_eq_true_eq, decide_eq_true_eq, decide_eq_true_eq]
      rintro ⟨h1, h2⟩
      exact h1 (h2.trans e)]
    rfl
  · rw [if_neg e]
    congr 2
    funext x
    rw [decide_eq_decide, decide_eq_true_eq, decide_eq_true_eq]
    exact ⟨fun h => h.2, fun h => ⟨fun h2 => e (h.symm.trans h2), h⟩⟩
theorem keys_iff {β : Type} {m : List (Int × β)} {q : Int} : q ∈ m.map (·.1) ↔ (dget m q).isSome = true := by
  unfold dget
  rw [Option.isSome_map, List.find?_isSome, List.mem_map]
  constructor
  · rintro ⟨x, h1, h2⟩; exact ⟨x, h1, decide_eq_true h2⟩
  · rintro ⟨x, h1, h2⟩; exact ⟨x, h1, of_decide_eq_true h2⟩
theorem ddrop_kn {β : Type} {m : List (Int × β)} {k : Int} (h : (m.map (·.1)).Nodup) : ((ddrop m k).map (·.1)).Nodup := h.sublist (List.filter_sublist.map _)
end J
namespace J
/-! ### plain: the walks by first and last; a dict of when -/
def upd1 (st : List Int) (p : Int) : List Int := (if p ∈ st then st.eraseIdx (st.idxOf p) else st) ++ [p]
theorem upd1_nodup {st : List Int} (h : st.Nodup) (p : Int) : (upd1 st p).Nodup := by
  unfold upd1
  by_cases hp : p ∈ st
  · rw [if_pos hp]
    have hlt : st.idxOf p < st.length := List.idxOf_lt_length_iff.mpr hp
    refine List.nodup_append.mpr ⟨h.sublist (List.eraseIdx_sublist _ _), by simp, ?_⟩
    intro a ha b hb e
    simp at hb
    subst hb
    subst e
    obtain ⟨j, hj⟩ := List.mem_iff_getElem?.mp ha
    rw [List.getElem?_eraseIdx] at hj
    split at hj
    · have := idx_of h hj; omega
    · have := idx_of h hj; omega
  · rw [if_neg hp]
    refine List.nodup_append.mpr ⟨h, by simp, ?_⟩
    intro a ha b hb e
    simp at hb
    subst hb
    subst e
    exact hp ha
theorem upd1_len_le {st : List Int} (p : Int) : (upd1 st p).length ≤ st.length + 1 := by
  unfold upd1
  rw [List.length_append, List.length_singleton]
  split
  · rw [List.length_eraseIdx]; split <;> omega
  · omega
abbrev T3 := PySem.W.T3 Int PySem.Str (Option Int)
/-! ### walk -/
structure Rel (m : List (Int × Int)) (H : List Int) (k : Nat) : Prop where
  kn : (m.map (·.1)).Nodup
  has : ∀ q, (dget m q).isSome = true ↔ q ∈ H
  ord : H.Pairwise fun a b => ∃ i j, dget m a = some i ∧ dget m b = some j ∧ i < j
  lt : ∀ q a, dget m q = some a → a < k
  nd : H.Nodup
theorem Rel.len {m : List (Int × Int)} {H : List Int} {k : Nat} (h : Rel m H k) : m.length = H.length := by
  have pm : (m.map (·.1)).Perm H := (List.perm_ext_iff_of_nodup h.kn h.nd).mpr fun q => by rw [keys_iff, h.has]
  rw [← pm.length_eq, List.length_map]
theorem Rel.drop {m : List (Int × Int)} {g : Int} {H : List Int} {k : Nat} (h : Rel m (g :: H) k) : Rel (ddrop m g) H k where
  kn := ddrop_kn h.kn
  has := fun q => by
    have hg := (List.nodup_cons.mp h.nd).1
    rw [dget_drop]
    by_cases e : q = g
    · rw [if_pos e, e]; exact ⟨fun h => by simp at h, fun h => absurd h hg⟩
    · rw [if_neg e, h.has, List.mem_cons]; exact ⟨fun h => h.elim (fun h => absurd h e) id, .inr⟩
  ord := by
    have hg := (List.nodup_cons.mp h.nd).1
    refine (List.Pairwise.and_mem.mp (List.pairwise_cons.mp h.ord).2).imp fun {a b} ⟨ha, hb, i, j, h1, h2, h3⟩ => ⟨i, j, ?_, ?_, h3⟩
    · rw [dget_drop, if_neg fun e => hg (by rw [← e]; exact ha), h1]
    · rw [dget_drop, if_neg fun e => hg (by rw [← e]; exact hb), h2]
  lt := fun q a ha => by
    rw [dget_drop] at ha
    split at ha
    · cases ha
    · exact h.lt q a ha
  nd := (List.nodup_cons.mp h.nd).2
def linedC (s3 : ((List (Int × Int)) × (List (PySem.W.T3 Int PySem.Str (Option Int))))) (s9 : Unit) (x11 : Int) : Option (Option (Int × Int) × Unit) :=
  (J.dget s3.1 x11).bind fun x12 => some (some (x12, x11), ())
def bl (mv : Bool) (a1 : Int) (s3 : List (Int × Int) × List T3) (x5 : Int × Int) : Option (List (Int × Int) × List T3) :=
  (J.ifM (J.dhas s3.1 x5.2) ( some ("hit" : PySem.Str)) ( some ("fault" : PySem.Str))).bind fun x6 => ((if ((decide (x6 = ("fault" : PySem.Str))) && (decide (((s3.1).length : Int) = a1))) = true then ((J.lcM (linedC s3) (s3.1.map (·.1)) ()).bind fun x13 => (J.gx (J.sortP x13.1) 0).bind fun x14 => ((some x14.2)).bind fun x15 => (J.dget s3.1 x15).bind fun x16 => some ((J.ddrop s3.1 x15), (some x14.2))) else ( some (s3.1, none)) : Option ((List (Int × Int)) × (Option Int)))).bind fun s7 => ((if ((decide (x6 = ("fault" : PySem.Str))) || mv) = true then ((J.dputG s7.1 x5.2 x5.1).bind fun x19 => some x19) else ( some s7.1) : Option (List (Int × Int)))).bind fun s17 => (J.psh s3.2 (PySem.W.T3.mk x5.2 x6 s7.2)).bind fun x20 => some (s17, x20)
/-! ### generic: what ask does -/
end J
namespace J
/-! ### plain: the ring of the walk by clock -/
end J
namespace J
/-! ### plain: the walk by far, as the program goes -/
end J
namespace J
/-! ### plain: what every rule's walk is like; no rule makes fewer faults than far -/
inductive Good (r : Nat) : List Int → List Int → List T3 → Prop where
  | nil (H : List Int) : Good r H [] []
  | hit {H H' : List Int} {p : Int} {l : List Int} {ts : List T3} : p ∈ H → H'.Nodup → (∀ x, x ∈ H' ↔ x ∈ H) → Good r H' l ts → Good r H (p :: l) (⟨p, "hit", none⟩ :: ts)
  | add {H H' : List Int} {p : Int} {l : List Int} {ts : List T3} : p ∉ H → H.length < r → H'.Nodup → (∀ x, x ∈ H' ↔ x = p ∨ x ∈ H) → Good r H' l ts → Good r H (p :: l) (⟨p, "fault", none⟩ :: ts)
  | swap {H H' : List Int} {p g : Int} {l : List Int} {ts : List T3} : p ∉ H → H.length = r → g ∈ H → H'.Nodup → (∀ x, x ∈ H' ↔ x = p ∨ (x ∈ H ∧ x ≠ g)) → Good r H' l ts → Good r H (p :: l) (⟨p, "fault", some g⟩ :: ts)
theorem Good.len {r : Nat} {H l : List Int} {ts : List T3} (h : Good r H l ts) : ts.length = l.length := by
  induction h with
  | nil => rfl
  | hit _ _ _ _ ih => rw [List.length_cons, List.length_cons, ih]
  | add _ _ _ _ _ ih => rw [List.length_cons, List.length_cons, ih]
  | swap _ _ _ _ _ _ ih => rw [List.length_cons, List.length_cons, ih]
/-! the rules' walks are such -/
end J
namespace J
/-! ### plain: faults of such walks; Belady -/
structure Hd (m : List (Int × Bool)) (H : List Int) : Prop where
  kn : (m.map (·.1)).Nodup
  has : ∀ q, (dget m q).isSome = true ↔ q ∈ H
  nd : H.Nodup
theorem Hd.len {m : List (Int × Bool)} {H : List Int} (h : Hd m H) : m.length = H.length := by
  have pm : (m.map (·.1)).Perm H := (List.perm_ext_iff_of_nodup h.kn h.nd).mpr fun q => by rw [keys_iff, h.has]
  rw [← pm.length_eq, List.length_map]
/-! Belady -/
end J
namespace J
/-! ### papers: what a set of places leaves, and the rule far -/
/-- the gaps left open and the places paid for, behind a set of pages asked for since the last place -/
def pay (r : Nat) (S : Nat → Bool) : Nat → List Int → List Int → Nat
  | _, _, [] => 0
  | k, A, p :: l => (if p ∈ A then 1 else 0) + (if S k = true then (r - 1) + pay r S (k + 1) [p] l else pay r S (k + 1) (p :: A) l)
end J
namespace J
/-! ### gaps and bounds, as the program counts them -/
def lastAt (l : List Int) : Nat → Int → Option Int
  | 0, _ => none
  | k + 1, p => if l.getD k 0 = p then some (k : Int) else lastAt l k p
/-! ### the same, by what is left open and paid -/
def pm (ps : List Int) (k : Nat) : Bool := decide ((k : Int) ∈ ps)
end J
namespace J
/-! ### the paper told: the least of the shortest of the best -/
theorem forM_map {α β : Type} {f : List β → α → Option (List β)} {g : α → β} : ∀ {xs : List α} {s : List β}, (∀ s x, x ∈ xs → s.length < 16777216 → f s x = some (s ++ [g x])) → s.length + xs.length ≤ 16777216 → forM f xs s = some (s ++ xs.map g)
  | [], s, _, _ => by simp [J.forM]
  | x :: xs, s, h, hl => by
    simp only [List.length_cons] at hl
    show (f s x).bind (forM f xs) = _
    rw [h s x List.mem_cons_self (by omega), Option.bind_some, forM_map (fun s y hy => h s y (List.mem_cons_of_mem _ hy)) (by simp; omega)]
    simp
abbrev T3i := PySem.W.T3 Int Int (List Int)
/-! gaps from a number on, up to one -/
/-! what is open up to a place -/
def nd : Nat → List Int → List Int → Nat
  | 0, _, _ => 0
  | _ + 1, _, [] => 0
  | m + 1, A, p :: l => (if p ∈ A then 1 else 0) + nd m (p :: A) l
def frm (l : List Int) (f : Int) (i : Nat) : Bool := (lastAt l i (l.getD i 0)).any fun a => decide (f ≤ a)
/-! the cost of a paper behind a place -/
def hd1 (l : List Int) (j : Nat) : List Int := if j = 0 then [] else [l.getD (j - 1) 0]
def cost (r : Nat) (l : List Int) (j : Nat) (Q : List Int) : Nat := pay r (pm Q) j (hd1 l j) (l.drop j)
/-! the least of a list of such -/
def lexle : List Int → List Int → Prop
  | [], _ => True
  | _ :: _, [] => False
  | x :: xs, y :: ys => x < y ∨ (x = y ∧ lexle xs ys)
theorem lexle_refl : ∀ a : List Int, lexle a a
  | [] => True.intro
  | x :: xs => .inr ⟨rfl, lexle_refl xs⟩
theorem lexle_trans : ∀ {a b c : List Int}, lexle a b → lexle b c → lexle a c
  | [], _, _, _, _ => True.intro
  | _ :: _, [], _, h, _ => h.elim
  | _ :: _, _ :: _, [], _, k => k.elim
  | x :: xs, y :: ys, z :: zs, h, k => by
    rcases h with h | ⟨rfl, h⟩
    · rcases k with k | ⟨rfl, k⟩
      · exact .inl (by omega)
      · exact .inl h
    · rcases k with k | ⟨rfl, k⟩
      · exact .inl k
      · exact .inr ⟨rfl, lexle_trans h k⟩
theorem lexle_anti : ∀ {a b : List Int}, lexle a b → lexle b a → a = b
  | [], [], _, _ => rfl
  | [], _ :: _, _, k => k.elim
  | _ :: _, [], h, _ => h.elim
  | x :: xs, y :: ys, h, k => by
    rcases h with h | ⟨rfl, h⟩
    · rcases k with k | ⟨rfl, k⟩ <;> omega
    · rcases k with k | ⟨_, k⟩
      · omega
      · rw [lexle_anti h k]
theorem lexle_lt : ∀ {a b : List Int}, PySem.W.listLt a b = true → lexle a b
  | [], _, _ => True.intro
  | _ :: _, [], h => by cases h
  | x :: xs, y :: ys, h => by
    unfold PySem.W.listLt at h
    by_cases c : x = y
    · rw [if_pos c] at h
      exact .inr ⟨c, lexle_lt h⟩
    · rw [if_neg c] at h
      exact .inl (of_decide_eq_true h)
theorem lexle_nlt : ∀ {a b : List Int}, ¬ PySem.W.listLt a b = true → lexle b a
  | _, [], _ => True.intro
  | [], _ :: _, h => (h rfl).elim
  | x :: xs, y :: ys, h => by
    unfold PySem.W.listLt at h
    by_cases c : x = y
    · rw [if_pos c] at h
      exact .inr ⟨c.symm, lexle_nlt h⟩
    · rw [if_neg c] at h
      have : ¬ x < y := fun z => h (decide_eq_true z)
      exact .inl (by omega)
def le2 (s t : T3i) : Prop := s.a < t.a ∨ (s.a = t.a ∧ (s.b < t.b ∨ (s.b = t.b ∧ lexle s.c t.c)))
theorem le2.w {s t : T3i} (h : le2 s t) : s.a < t.a ∨ (s.a = t.a ∧ s.b ≤ t.b) := by
  rcases h with h | ⟨h, k⟩
  · exact .inl h
  · exact .inr ⟨h, k.elim (fun z => by omega) fun z => by omega⟩
/-! the table -/
def InR (l : List Int) (j : Nat) (Q : List Int) : Prop := Q.Pairwise (· < ·) ∧ ∀ x ∈ Q, (j : Int) ≤ x ∧ x < l.length
structure Feas (r : Nat) (l : List Int) (j : Nat) (t : T3i) : Prop where
  inr : InR l j t.c
  cst : t.a = (cost r l j t.c : Nat)
  cnt : t.b = (t.c.length : Nat)
structure BestP (r : Nat) (l : List Int) (j : Nat) (t : T3i) : Prop extends Feas r l j t where
  least : ∀ Q, InR l j Q → le2 t ⟨(cost r l j Q : Nat), (Q.length : Nat), Q⟩
theorem InR.length {l : List Int} : ∀ {Q : List Int} {j : Nat}, InR l j Q → Q.length + j ≤ max j l.length
  | [], j, _ => by simp; omega
  | q :: Q, j, h => by
    obtain ⟨h1, h2⟩ := h
    rw [List.pairwise_cons] at h1
    have hq := h2 q List.mem_cons_self
    have := InR.length (l := l) (Q := Q) (j := (q + 1).toNat) ⟨h1.2, fun x hx => by
      have := h1.1 x hx
      have := h2 x (List.mem_cons_of_mem _ hx)
      omega⟩
    rw [List.length_cons]
    omega
structure Tb (r : Nat) (l : List Int) (j : Nat) (s : List (Int × T3i)) : Prop where
  at_ : ∀ q : Nat, j ≤ q → q < l.length → ∃ t, dget s (q : Int) = some t ∧ BestP r l (q + 1) t
  few : s.length + j ≤ l.length + 1
theorem Tb.next {r : Nat} {l : List Int} {j : Nat} {s : List (Int × T3i)} {m : T3i} (h : Tb r l (j + 1) s) (hm : BestP r l (j + 1) m) : Tb r l j (dput s ((j : Int)) m) := by
  have hl := dput_len (m := s) (k := (j : Int)) (v := m)
  have := h.few
  refine ⟨fun q h1 h2 => ?_, by omega⟩
  rw [dget_put]
  by_cases c : q = j
  · subst c
    rw [if_pos rfl]
    exact ⟨m, rfl, hm⟩
  · rw [if_neg (by omega)]
    exact h.at_ q (by omega) h2
end J
namespace J
/-! ### rooms dealt: the least of the lists with the fewest together -/
abbrev Pr := Int × List Int
abbrev Bd := List (Int × Pr)
def dealC1 (s8 : Bd) (x16 : Int) (s18 : Unit) (x20 : Int) : Option (Option (Int × Pr) × Unit) :=
  (dget s8 (x16 - x20)).bind fun x21 => some (some (x20, x21), ())
def dealC2 (x11 : (List Int)) (s23 : Unit) (x25 : (Int × Pr)) : Option (Option Pr × Unit) :=
  (gx x11 (x25.1 - 1)).bind fun x26 => (catG ([x25.1] : List Int) x25.2.2).bind fun x27 => some (some ((x26 + x25.2.1), x27), ())
def dealB3 (s8 : Bd) (x10 : (Int × (List Int))) (x11 : (List Int)) (s14 : Bd) (x16 : Int) : Option Bd :=
  (rngG2 1 ((x16 - x10.1) + 1)).bind fun x17 => (lcM (dealC1 s8 x16) x17 ()).bind fun x22 => (lcM (dealC2 x11) x22.1 ()).bind fun x28 => (minG x28.1).bind fun x29 => (dputG s14 x16 x29).bind fun x30 => some x30
def DC : List (Int → Int) → List Int → Int
  | c :: cs, s :: sz => c s + DC cs sz
  | _, _ => 0
structure Fs (k : Nat) (left : Int) (sz : List Int) : Prop where
  len : sz.length = k
  pos : ∀ s ∈ sz, 1 ≤ s
  sum : sz.sum ≤ left
theorem sum_pos : ∀ {sz : List Int}, (∀ s ∈ sz, 1 ≤ s) → (sz.length : Int) ≤ sz.sum
  | [], _ => Int.le_refl _
  | s :: sz, h => by
    have := sum_pos (sz := sz) fun x hx => h x (List.mem_cons_of_mem _ hx)
    have := h s List.mem_cons_self
    rw [List.length_cons, List.sum_cons]
    omega
def lp (s t : Pr) : Prop := s.1 < t.1 ∨ (s.1 = t.1 ∧ lexle s.2 t.2)
theorem lp_refl (s : Pr) : lp s s := .inr ⟨rfl, lexle_refl _⟩
theorem lp_trans {s t u : Pr} (h : lp s t) (k : lp t u) : lp s u := by
  rcases h with h | ⟨h, h'⟩
  · rcases k with k | ⟨k, _⟩
    · exact .inl (by omega)
    · exact .inl (by omega)
  · rcases k with k | ⟨k, k'⟩
    · exact .inl (by omega)
    · exact .inr ⟨by omega, lexle_trans h' k'⟩
theorem lp_lt {s t : Pr} (h : PySem.W.DatumOrd.lt s t = true) : lp s t := by
  change (if s.1 = t.1 then PySem.W.listLt s.2 t.2 else decide (s.1 < t.1)) = true at h
  by_cases c : s.1 = t.1
  · rw [if_pos c] at h
    exact .inr ⟨c, lexle_lt h⟩
  · rw [if_neg c] at h
    exact .inl (of_decide_eq_true h)
theorem lp_nlt {s t : Pr} (h : ¬ PySem.W.DatumOrd.lt s t = true) : lp t s := by
  change ¬ (if s.1 = t.1 then PySem.W.listLt s.2 t.2 else decide (s.1 < t.1)) = true at h
  by_cases c : s.1 = t.1
  · rw [if_pos c] at h
    exact .inr ⟨c.symm, lexle_nlt h⟩
  · rw [if_neg c, decide_eq_true_eq] at h
    exact .inl (by omega)
theorem minG_rel {β : Type} [DecidableEq β] [PySem.W.DatumOrd β] {R : β → β → Prop} (hr : ∀ s, R s s) (ht : ∀ s t u, R s t → R t u → R s u) (h1 : ∀ s t : β, PySem.W.DatumOrd.lt s t = true → R s t) (h2 : ∀ s t : β, ¬ PySem.W.DatumOrd.lt s t = true → R t s) {xs : List β} (h : xs ≠ []) : ∃ m ∈ xs, minG xs = some m ∧ ∀ y ∈ xs, R m y := by
  cases xs with
  | nil => exact absurd rfl h
  | cons t ts =>
    refine ⟨PySem.W.minOf t ts, ?_⟩
    have key : PySem.W.minOf t ts ∈ t :: ts ∧ ∀ y ∈ t :: ts, R (PySem.W.minOf t ts) y := by
      unfold PySem.W.minOf
      clear h
      induction ts generalizing t with
      | nil => exact ⟨List.mem_cons_self, fun y hy => by
          rw [List.mem_singleton] at hy
          subst hy
          exact hr _⟩
      | cons y ys ih =>
        rw [List.foldl_cons]
        obtain ⟨i1, i2⟩ := ih (if PySem.W.DatumOrd.lt y t = true then y else t)
        have hd := i2 _ List.mem_cons_self
        generalize List.foldl (fun a y => if PySem.W.DatumOrd.lt y a = true then y else a) (if PySem.W.DatumOrd.lt y t = true then y else t) ys = m at *
        by_cases c : PySem.W.DatumOrd.lt y t = true
        · rw [if_pos c] at i1 i2 hd
          refine ⟨List.mem_cons_of_mem _ i1, fun z hz => ?_⟩
          rcases List.mem_cons.mp hz with e | hz
          · subst e
            exact ht _ _ _ hd (h1 _ _ c)
          · exact i2 z hz
        · rw [if_neg c] at i1 i2 hd
          refine ⟨(List.mem_cons.mp i1).elim (fun e => e ▸ List.mem_cons_self) fun e => List.mem_cons_of_mem _ (List.mem_cons_of_mem _ e), fun z hz => ?_⟩
          rcases List.mem_cons.mp hz with e | hz
          · subst e
            exact hd
          · rcases List.mem_cons.mp hz with e | hz
            · subst e
              exact ht _ _ _ hd (h2 _ _ c)
            · exact i2 z (List.mem_cons_of_mem _ hz)
    exact ⟨key.1, rfl, key.2⟩
structure BestS (cs : List (Int → Int)) (left : Int) (t : Pr) : Prop where
  fs : Fs cs.length left t.2
  val : t.1 = DC cs t.2
  least : ∀ sz, Fs cs.length left sz → lp t (DC cs sz, sz)
structure Dst (f : Nat) (cs : List (Int → Int)) (m : Bd) : Prop where
  at_ : ∀ q : Int, (cs.length : Int) ≤ q → q ≤ f → ∃ t, dget m q = some t ∧ BestS cs q t
  few : m.length ≤ f + 1
theorem rng_atD {lo : Int} {n i : Nat} (h : i < n) : (rng lo n)[i]? = some (lo + i) := by
  unfold rng
  rw [List.getElem?_map, List.getElem?_range h]
  rfl
theorem inner_best {f k : Nat} {cs : List (Int → Int)} {c : Int → Int} {best : Bd} {tr : List Int} {left : Int} {s : Bd} (hf : f ≤ 1000) (hk : cs.length = k) (hb : Dst f cs best) (h0 : (k : Int) + 1 ≤ left) (h1 : left ≤ f) (hs : s.length ≤ f) : ∃ m, dealB3 best ((k : Int), tr) ((rng 1 f).map c) s left = some (dput s left m) ∧ BestS (c :: cs) left m := by
  let tq : Int → Pr := fun x => (dget best x).getD (0, [])
  have hq : ∀ x : Int, 1 ≤ x → x ≤ left - k → dget best (left - x) = some (tq (left - x)) ∧ BestS cs (left - x) (tq (left - x)) := fun x a b => by
    obtain ⟨t, e, h⟩ := hb.at_ (left - x) (by omega) (by omega)
    have : tq (left - x) = t := by
      show (dget best _).getD _ = t
      rw [e]
      rfl
    rw [this]
    exact ⟨e, h⟩
  unfold dealB3
  dsimp only
  rw [rngG2_ok (by omega), Option.bind_some, show (left - (k : Int) + 1 - 1).toNat = (left - k).toNat by omega]
  have e1 : lcM (dealC1 best left) (rng 1 (left - k).toNat) () = some ((rng 1 (left - k).toNat).map fun x => (x, tq (left - x)), ()) := lcM_map (fun x hx => by
    have := rng_mem hx
    unfold dealC1
    rw [(hq x (by omega) (by omega)).1]
    rfl) (by rw [rng_len]; omega)
  rw [e1, Option.bind_some]
  dsimp only
  have e2 : lcM (dealC2 ((rng 1 f).map c)) ((rng 1 (left - k).toNat).map fun x => (x, tq (left - x))) () = some ((rng 1 (left - k).toNat).map fun x => (c x + (tq (left - x)).1, x :: (tq (left - x)).2), ()) := by
    rw [lcM_map (g := fun z : Int × Pr => (c z.1 + z.2.1, z.1 :: z.2.2)) (fun z hz => by
      obtain ⟨x, hx, rfl⟩ := List.mem_map.mp hz
      have hx2 := rng_mem hx
      obtain ⟨_, hB⟩ := hq x (by omega) (by omega)
      have hl := hB.fs.len
      unfold dealC2
      dsimp only
      rw [gx_nat (by omega), List.getElem?_map, rng_atD (by omega)]
      show (catG [x] (tq (left - x)).2).bind _ = _
      rw [catG_ok (by simp; omega), Option.bind_some, show (1 : Int) + ((x - 1).toNat : Nat) = x by omega]
      rfl) (by rw [List.length_map, rng_len]; omega), List.map_map]
    rfl
  rw [e2, Option.bind_some]
  dsimp only
  obtain ⟨m, hm, em, hmin⟩ := minG_rel (R := lp) lp_refl (fun _ _ _ => lp_trans) (fun _ _ => lp_lt) (fun _ _ => lp_nlt) (xs := (rng 1 (left - k).toNat).map fun x => (c x + (tq (left - x)).1, x :: (tq (left - x)).2)) (fun e => by
    have := congrArg List.length e
    rw [List.length_map, rng_len, List.length_nil] at this
    omega)
  rw [em, Option.bind_some]
  refine ⟨m, ?_, ?_⟩
  · unfold dputG
    rw [if_pos (by omega)]
    rfl
  · obtain ⟨x, hx, rfl⟩ := List.mem_map.mp hm
    have hx2 := rng_mem hx
    obtain ⟨_, hB⟩ := hq x (by omega) (by omega)
    refine ⟨⟨?_, fun y hy => ?_, ?_⟩, ?_, fun sz hsz => ?_⟩
    · show (x :: _).length = cs.length + 1
      rw [List.length_cons, hB.fs.len]
    · rcases List.mem_cons.mp hy with rfl | hy
      · omega
      · exact hB.fs.pos y hy
    · show (x :: _).sum ≤ left
      have := hB.fs.sum
      rw [List.sum_cons]
      omega
    · show c x + _ = c x + DC cs _
      rw [hB.val]
    · obtain ⟨l1, l2, l3⟩ := hsz
      cases sz with
      | nil => simp at l1
      | cons y sz =>
        have l1 : sz.length = cs.length := by simpa using l1
        have py := l2 y List.mem_cons_self
        have ps : ∀ s ∈ sz, 1 ≤ s := fun s h => l2 s (List.mem_cons_of_mem _ h)
        have sp := sum_pos ps
        rw [List.sum_cons] at l3
        have hy : y ∈ rng 1 (left - k).toNat := by
          unfold rng
          exact List.mem_map.mpr ⟨(y - 1).toNat, List.mem_range.mpr (by omega), by omega⟩
        have hle := hmin _ (List.mem_map.mpr ⟨y, hy, rfl⟩)
        obtain ⟨_, hC⟩ := hq y (by omega) (by omega)
        refine lp_trans hle ?_
        rcases hC.least sz ⟨l1, ps, by omega⟩ with h | ⟨h, h'⟩
        · refine .inl ?_
          show c y + _ < c y + DC cs sz
          dsimp only at h
          omega
        · refine .inr ⟨?_, .inr ⟨rfl, h'⟩⟩
          show c y + _ = c y + DC cs sz
          dsimp only at h
          omega
theorem newer_best {f k : Nat} {cs : List (Int → Int)} {c : Int → Int} {best : Bd} {tr : List Int} (hf : f ≤ 1000) (hk : cs.length = k) (hb : Dst f cs best) : ∀ (n : Nat) (lo : Int) (s : Bd), (k : Int) + 1 ≤ lo → lo + n = f + 1 → (s.length : Int) ≤ lo → (∀ q : Int, (k : Int) + 1 ≤ q → q < lo → ∃ t, dget s q = some t ∧ BestS (c :: cs) q t) → ∃ s', forM (dealB3 best ((k : Int), tr) ((rng 1 f).map c)) (rng lo n) s = some s' ∧ Dst f (c :: cs) s'
  | 0, lo, s, h0, h1, h2, h3 => ⟨s, rfl, fun q a b => h3 q (by rw [List.length_cons] at a; omega) (by omega), by omega⟩
  | n + 1, lo, s, h0, h1, h2, h3 => by
    have rc : rng lo (n + 1) = lo :: rng (lo + 1) n := by
      unfold rng
      rw [List.range_succ_eq_map, List.map_cons, List.map_map]
      congr 1
      · simp
      · apply List.map_congr_left
        intro i _
        simp only [Function.comp_apply]
        omega
    obtain ⟨m, e, hm⟩ := inner_best (c := c) (tr := tr) hf hk hb h0 (by omega) (s := s) (by omega)
    have dl := dput_len (m := s) (k := lo) (v := m)
    obtain ⟨s', e', hs'⟩ := newer_best (c := c) (tr := tr) hf hk hb n (lo + 1) (dput s lo m) (by omega) (by omega) (by omega) fun q a b => by
      rw [dget_put]
      by_cases z : q = lo
      · rw [if_pos z]
        exact ⟨m, rfl, z ▸ hm⟩
      · rw [if_neg z]
        exact h3 q a (by omega)
    refine ⟨s', ?_, hs'⟩
    rw [rc]
    show (dealB3 _ _ _ s lo).bind _ = _
    rw [e]
    exact e'
theorem start_best {f : Nat} (hf : f ≤ 1000) : Dst f [] (dOf ((rng 0 (f + 1)).map fun x => (x, ((0 : Int), ([] : List Int))))) := by
  refine ⟨fun q h0 h1 => ⟨(0, []), ?_, ⟨rfl, (fun s h => nomatch h), by simpa using h0⟩, rfl, fun sz h => ?_⟩, ?_⟩
  · have key : ∀ (ys : List Int) (m : Bd), (q ∈ ys ∨ dget m q = some (0, [])) → dget ((ys.map fun x => (x, ((0 : Int), ([] : List Int)))).foldl (fun m q => dput m q.1 q.2) m) q = some (0, []) := by
      intro ys
      induction ys with
      | nil =>
        intro m h
        rcases h with h | h
        · cases h
        · exact h
      | cons y ys ih =>
        intro m h
        rw [List.map_cons, List.foldl_cons]
        refine ih _ ?_
        by_cases c : q = y
        · exact .inr (by rw [dget_put, if_pos c])
        · rcases h with h | e
          · exact .inl ((List.mem_cons.mp h).resolve_left c)
          · exact .inr (by rw [dget_put, if_neg c]; exact e)
    refine key (rng 0 (f + 1)) [] (.inl ?_)
    unfold rng
    have h0' : 0 ≤ q := by simpa using h0
    exact List.mem_map.mpr ⟨q.toNat, List.mem_range.mpr (by omega), by omega⟩
  · have h := h.len
    have : sz = [] := List.length_eq_zero_iff.mp h
    subst this
    exact lp_refl _
  · have := dOf_len ((rng 0 (f + 1)).map fun x => (x, ((0 : Int), ([] : List Int))))
    rw [List.length_map, rng_len] at this
    exact this
/-! one room another -/
theorem sum_set : ∀ {sz : List Int} {i : Nat} {s v : Int}, sz[i]? = some s → (sz.set i v).sum = sz.sum - s + v
  | [], _, _, _, h => by simp at h
  | s0 :: sz, 0, s, v, k => by
    have k := Option.some.inj (show some s0 = some s from k)
    subst k
    rw [List.set_cons_zero, List.sum_cons, List.sum_cons]
    omega
  | s0 :: sz, i + 1, s, v, k => by
    have := sum_set (sz := sz) (i := i) (s := s) (v := v) k
    rw [List.set_cons_succ, List.sum_cons, List.sum_cons]
    omega
theorem Fs.set {k : Nat} {left : Int} {sz : List Int} {i : Nat} {s v : Int} (h : Fs k left sz) (hs : sz[i]? = some s) (hv : 1 ≤ v) (hsum : sz.sum - s + v ≤ left) : Fs k left (sz.set i v) := by
  refine ⟨by rw [List.length_set]; exact h.len, fun x hx => ?_, by rw [sum_set hs]; exact hsum⟩
  rcases List.mem_or_eq_of_mem_set hx with hx | rfl
  · exact h.pos x hx
  · exact hv
end J
namespace Gk53
open J
structure Bg (N fold left turn : Int) (great : List Int) : Prop where
  f0 : 0 ≤ fold
  f1 : fold < 2305843009213693951
  l0 : 0 ≤ left
  t0 : 0 ≤ turn
  t1 : turn ≤ N
  few : great.length ≤ 63
  pos : ∀ g ∈ great, 0 ≤ g
theorem Bg.mono {N M fold left turn : Int} {great : List Int} (h : Bg N fold left turn great) (e : N ≤ M) : Bg M fold left turn great := ⟨h.f0, h.f1, h.l0, h.t0, Int.le_trans h.t1 e, h.few, h.pos⟩
theorem sq_lt {a b : Int} (h0 : 0 ≤ a) (h : a ≤ b) : a ^ 2 ≤ b ^ 2 := by
  rw [Int.pow_succ, Int.pow_succ, Int.pow_zero, Int.one_mul, Int.pow_succ, Int.pow_succ, Int.pow_zero, Int.one_mul]
  exact Int.mul_le_mul h h h0 (Int.le_trans h0 h)
theorem draw_ok {N fold left turn many : Int} {great : List Int} (h : Bg N fold left turn great) (hm : 1 ≤ many ∧ many < 1000000000000) (hN : N < 1000000) : Tot (m_law_draw many great left turn fold) fun r => (0 ≤ r.1 ∧ r.1 < many) ∧ Bg (N + 1) fold r.2.1 r.2.2.1 r.2.2.2 := by
  unfold m_law_draw
  obtain ⟨f0, f1, l0, t0, t1, few, pos⟩ := h
  refine tot_bind (P := fun s : Int × List Int => 0 ≤ s.1 ∧ s.2.length ≤ 63 ∧ ∀ g ∈ s.2, 0 ≤ g) ?_ fun s hs => ?_
  · refine tot_ite (fun c => ?_) fun c => tot_some ⟨l0, few, pos⟩
    rw [Bool.and_eq_true] at c
    have c2 := of_decide_eq_true c.2
    cases great with
    | nil => simp at c2
    | cons g gs =>
      have e : popG (g :: gs) 0 = some (g, gs) := by
        unfold popG
        rw [if_pos (by simp only [List.length_cons] at few ⊢; omega)]
        have : ixp (g :: gs).length 0 = some 0 := by unfold ixp; simp
        rw [this]
        rfl
      rw [e]
      exact tot_some ⟨pos g List.mem_cons_self, by simp only [List.length_cons] at few; dsimp only; omega, fun x hx => pos x (List.mem_cons_of_mem _ hx)⟩
  · obtain ⟨s1, s2, s3⟩ := hs
    refine tot_ite (fun c => ?_) fun c => ?_
    · rw [modG_ok (by omega), divG_ok (by omega)]
      refine tot_some ⟨⟨Int.emod_nonneg _ (by omega), Int.emod_lt_of_pos _ (by omega)⟩, f0, f1, ?_, t0, (by dsimp only; omega), s2, s3⟩
      exact Int.ediv_nonneg s1 (by omega)
    · have hsq : (turn + 1 + 29) ^ 2 ≤ (1000030 : Int) ^ 2 := sq_lt (by omega) (by omega)
      have hsq0 : 0 ≤ (turn + 1 + 29) ^ 2 := by
        have := sq_lt (a := 0) (b := turn + 1 + 29) (by omega) (by omega)
        simpa using this
      have hsq1 : (turn + 1 + 29) ^ 2 ≤ 1000060000900 := hsq
      rw [powG_ok (by omega), Option.bind_some, mulG_ok (.inr (by omega)), Option.bind_some, Option.bind_some]
      have hmod : ∀ z : Int, (z % 2305843009213693951).natAbs < 18446744073709551616 := fun z => by
        have := Int.emod_nonneg z (b := 2305843009213693951) (by omega)
        have := Int.emod_lt_of_pos z (b := 2305843009213693951) (by omega)
        omega
      rw [powG_ok (hmod _), Option.bind_some, modG_ok (by omega)]
      exact tot_some ⟨⟨Int.emod_nonneg _ (by omega), Int.emod_lt_of_pos _ (by omega)⟩, f0, f1, s1, by dsimp only; omega, by dsimp only; omega, s2, s3⟩
theorem trace_ok {N fold left turn a1 a2 : Int} {great : List Int} (h : Bg N fold left turn great) (h1 : 0 ≤ a1 ∧ a1 ≤ 1000) (h2 : 1 ≤ a2 ∧ a2 < 1000) (hN : N + 3 * a1 + 10 < 1000000) : Tot (m_law_trace a1 a2 great left turn fold) fun r => (r.1.length : Int) ≤ a1 ∧ Bg (N + 2 + 3 * a1) fold r.2.1 r.2.2.1 r.2.2.2 := by
  unfold m_law_trace
  refine tot_bind (draw_ok h (by omega) (by omega)) fun r hr => ?_
  obtain ⟨⟨r0, r1⟩, hb⟩ := hr
  obtain ⟨base, _, eb⟩ := gx_ok (xs := ([0, 0, (1000000000 - 60)] : List Int)) (i := r.1) (by simp; omega)
  rw [eb]
  refine tot_let (tot_bind (draw_ok hb (by omega) (by omega)) fun q hq => ?_)
  obtain ⟨⟨q0, q1⟩, hb⟩ := hq
  rw [rngG_ok (by omega)]
  refine tot_let ?_
  refine tot_bind (tot_forB (I := fun k s => Bg (N + 2 + 3 * k) fold s.1 s.2.1 s.2.2.1 ∧ s.2.2.2.length = k) (K := q.1.toNat) (k := 0) ⟨hb.mono (by omega), rfl⟩ (by rw [rng_len]; omega) fun k s x hx hk2 hI => ?_) fun s hs => ?_
  · obtain ⟨hb, hk⟩ := hI
    have hx2 := rng_mem hx
    unfold m_law_trace_b0
    refine tot_bind (draw_ok hb (by omega) (by omega)) fun u hu => ?_
    obtain ⟨⟨u0, u1⟩, hb⟩ := hu
    refine tot_bind (draw_ok hb (by omega) (by omega)) fun v hv => ?_
    obtain ⟨⟨v0, v1⟩, hb⟩ := hv
    refine tot_bind (P := fun _ => True) (tot_ite (fun c => ?_) fun c => tot_some trivial) fun p _ => ?_
    · rw [Bool.and_eq_true] at c
      have c1 := of_decide_eq_true c.1
      obtain ⟨t, _, e⟩ := gx_ok (xs := s.2.2.2) (i := -1) (by omega)
      rw [e]
      exact tot_some trivial
    · refine tot_bind (P := fun z : Int × (Int × ((List Int) × Int)) => Bg (N + 2 + 3 * k + 1 + 1 + 1) fold z.1 z.2.1 z.2.2.1) (tot_ite (fun c => ?_) fun c => tot_some (hb.mono (by omega))) fun z hz => ?_
      · rw [Bool.and_eq_true] at c
        have c1 := of_decide_eq_true c.1
        refine tot_bind (draw_ok hb (by omega) (by omega)) fun w hw => ?_
        obtain ⟨⟨w0, w1⟩, hb⟩ := hw
        obtain ⟨t, _, e⟩ := gx_ok (xs := s.2.2.2) (i := ((s.2.2.2.length : Int) - 1) - w.1) (by omega)
        rw [e]
        exact tot_some hb
      · rw [psh_ok (by omega)]
        exact tot_some ⟨hz.mono (by omega), by simp [hk]⟩
  · obtain ⟨hb, hk⟩ := hs
    exact tot_some ⟨by dsimp only; omega, hb.mono (by omega)⟩
theorem bag_ok {ns : List Int} (hl : ns.length ≤ 63) : Tot (m_law_bag ns) fun r => Bg 0 r.2.2.2 r.2.1 r.2.2.1 r.1 := by
  unfold m_law_bag
  refine tot_bind (tot_forB (I := fun k s => (0 ≤ s.2 ∧ s.2 < 2305843009213693951) ∧ s.1.length ≤ k ∧ ∀ g ∈ s.1, 0 ≤ g) (K := ns.length) (k := 0) ⟨by dsimp only; omega, Nat.le_refl _, fun g hg => nomatch hg⟩ (Nat.zero_add _) fun k s x _ hk hI => ?_) fun s hs => ?_
  · obtain ⟨h1, h2, h3⟩ := hI
    unfold m_law_bag_b0
    refine tot_let ?_
    refine tot_bind (P := fun l : List Int => l.length ≤ k + 1 ∧ ∀ g ∈ l, 0 ≤ g) (tot_ite (fun c => ?_) fun c => tot_some ⟨by omega, h3⟩) fun l hl => ?_
    · rw [psh_ok (by omega)]
      refine tot_some ⟨by simp; omega, fun g hg => ?_⟩
      rcases List.mem_append.mp hg with hg | hg
      · exact h3 g hg
      · simp at hg
        subst hg
        split <;> omega
    · exact tot_some ⟨⟨Int.emod_nonneg _ (by omega), Int.emod_lt_of_pos _ (by omega)⟩, hl.1, hl.2⟩
  · obtain ⟨h1, h2, h3⟩ := hs
    exact tot_some ⟨h1.1, h1.2, by dsimp only; omega, by dsimp only; omega, by dsimp only; omega, by dsimp only; omega, h3⟩
theorem slc_drop {α : Type} {xs : List α} {lo : Int} (h : 0 ≤ lo) : slc xs (some lo) none = xs.drop lo.toNat := by
  have e1 : sx xs.length xs.length none = xs.length := rfl
  have e2 : sx xs.length 0 (some lo) = min lo.toNat xs.length := by
    show (if lo < 0 then _ else _) = _
    rw [if_neg (by omega)]
  unfold slc
  rw [e1, e2]
  by_cases hl : lo.toNat ≤ xs.length
  · rw [Nat.min_eq_left hl]
    exact List.take_of_length_le (by rw [List.length_drop]; omega)
  · rw [Nat.min_eq_right (by omega), List.drop_eq_nil_of_le (Nat.le_refl _), List.drop_eq_nil_of_le (by omega)]
    simp
theorem drop_erase_le {xs : List Int} {k i : Nat} (h : k ≤ i) : (xs.eraseIdx i).drop k = (xs.drop k).eraseIdx (i - k) := by
  apply List.ext_getElem?
  intro n
  rw [List.getElem?_drop, List.getElem?_eraseIdx, List.getElem?_eraseIdx]
  by_cases c : k + n < i
  · rw [if_pos c, if_pos (by omega), List.getElem?_drop]
  · rw [if_neg c, if_neg (by omega), List.getElem?_drop]
    congr 1
theorem drop_erase_gt {xs : List Int} {k i : Nat} (h : i < k) : (xs.eraseIdx i).drop k = xs.drop (k + 1) := by
  apply List.ext_getElem?
  intro n
  rw [List.getElem?_drop, List.getElem?_eraseIdx, if_neg (by omega), List.getElem?_drop]
  congr 1
  omega
def dep (st : List Int) (p : Int) : Option Int := if p ∈ st then some ((st.length : Int) - st.idxOf p) else none
def deeper (r : Int) : Option Int → Bool
  | none => true
  | some d => decide (r < d)
theorem depths_step {st : List Int} {fnd : List (Option Int)} {p : Int} (h1 : st.length < 16777216) (h2 : fnd.length < 16777216) : m_depths_b0 (st, fnd) p = some (upd1 st p, fnd ++ [dep st p]) := by
  unfold m_depths_b0 upd1 dep
  by_cases hp : p ∈ st
  · have hlt : st.idxOf p < st.length := List.idxOf_lt_length_iff.mpr hp
    have hl : (st.eraseIdx (st.idxOf p)).length < 16777216 := by rw [List.length_eraseIdx]; split <;> omega
    simp [hp, idxG_ok hp, remG_ok hp, psh_ok h2, psh_ok hl]
  · simp [hp, psh_ok h2, psh_ok h1]
theorem upd1_lenE {st : List Int} (p : Int) : (upd1 st p).length = st.length + (if p ∈ st then 0 else 1) := by
  unfold upd1
  by_cases hp : p ∈ st
  · have hlt : st.idxOf p < st.length := List.idxOf_lt_length_iff.mpr hp
    rw [if_pos hp, if_pos hp, List.length_append, List.length_eraseIdx, if_pos hlt]
    simp
    omega
  · rw [if_neg hp, if_neg hp, List.length_append]; rfl
theorem last_step {st : List Int} {p many : Int} {r : Nat} (hn : st.Nodup) (hr : 1 ≤ r) (h1 : st.length < 16777216) : m_law_last_b0 r (many, st.drop (st.length - r)) p = some (many + (if deeper r (dep st p) = true then 1 else 0), (upd1 st p).drop ((upd1 st p).length - r)) := by
  have hlen := upd1_lenE (st := st) p
  have hcat : ∀ l : List Int, l.length ≤ st.length → catG l [p] = some (l ++ [p]) := fun l hl => catG_ok (by simp; omega)
  by_cases hp : p ∈ st
  · have hlt : st.idxOf p < st.length := List.idxOf_lt_length_iff.mpr hp
    have hget : st[st.idxOf p]? = some p := by rw [List.getElem?_eq_getElem hlt, List.getElem_idxOf hlt]
    rw [if_pos hp] at hlen
    have hdep : dep st p = some ((st.length : Int) - st.idxOf p) := if_pos hp
    have hu : upd1 st p = st.eraseIdx (st.idxOf p) ++ [p] := by unfold upd1; rw [if_pos hp]
    by_cases hd : st.length - r ≤ st.idxOf p
    · have hm : p ∈ st.drop (st.length - r) := List.mem_iff_getElem?.mpr ⟨st.idxOf p - (st.length - r), by rw [List.getElem?_drop, show st.length - r + (st.idxOf p - (st.length - r)) = st.idxOf p by omega]; exact hget⟩
      have hi : (st.drop (st.length - r)).idxOf p = st.idxOf p - (st.length - r) := idx_of (hn.sublist (List.drop_sublist _ _)) (by rw [List.getElem?_drop, show st.length - r + (st.idxOf p - (st.length - r)) = st.idxOf p by omega]; exact hget)
      have hdd : deeper r (dep st p) = false := by rw [hdep]; show decide _ = false; exact decide_eq_false (by omega)
      have hle : ((st.drop (st.length - r)).eraseIdx ((st.drop (st.length - r)).idxOf p)).length ≤ st.length := Nat.le_trans (List.length_eraseIdx_le _ _) (by rw [List.length_drop]; omega)
      unfold m_law_last_b0
      simp only [hm, decide_true, if_true, remG_ok hm, Option.bind_some, hcat _ hle, hdd]
      rw [hlen, hu, List.drop_append_of_le_length (by rw [List.length_eraseIdx, if_pos hlt]; omega), drop_erase_le (by omega), hi]
      simp
    · have hm : p ∉ st.drop (st.length - r) := fun hm => by
        obtain ⟨j, hj⟩ := List.mem_iff_getElem?.mp hm
        rw [List.getElem?_drop] at hj
        have := idx_of hn hj
        omega
      have hdd : deeper r (dep st p) = true := by rw [hdep]; show decide _ = true; exact decide_eq_true (by omega)
      unfold m_law_last_b0
      have hl2 : (st.drop (st.length - r)).length = r := by rw [List.length_drop]; omega
      simp only [hm, decide_false, if_true, Option.bind_some, hdd, hl2]
      rw [if_neg (by decide), Option.bind_some, show (if ((r : Int) + 1 - r) > 0 then ((r : Int) + 1 - r) else 0) = 1 by rw [if_pos (by omega)]; omega, slc_drop (by omega), hcat _ (by rw [List.length_drop, hl2]; omega)]
      rw [hlen, hu, List.drop_append_of_le_length (by rw [List.length_eraseIdx, if_pos hlt]; omega), drop_erase_gt (by omega), List.drop_drop]
      rfl
  · rw [if_neg hp] at hlen
    have hm : p ∉ st.drop (st.length - r) := fun hm => hp (List.mem_of_mem_drop hm)
    have hdd : deeper r (dep st p) = true := by
      have : dep st p = none := if_neg hp
      rw [this]; rfl
    have hu : upd1 st p = st ++ [p] := by unfold upd1; rw [if_neg hp]
    unfold m_law_last_b0
    simp only [hm, decide_false, if_true, Option.bind_some, hdd]
    rw [if_neg (by decide), Option.bind_some, slc_drop (by split <;> omega), hcat _ (by rw [List.length_drop, List.length_drop]; omega), List.drop_drop]
    rw [hlen, hu, List.drop_append_of_le_length (by omega), Option.bind_some, List.length_drop]
    have hk : ∀ m : Nat, m = st.length - (st.length - r) → st.length - r + (if ((m : Int) + 1 - r) > 0 then ((m : Int) + 1 - r) else 0).toNat = st.length + 1 - r := fun m hm => by split <;> omega
    rw [hk _ rfl]
def deps : List Int → List Int → List (Option Int)
  | _, [] => []
  | st, p :: tr => dep st p :: deps (upd1 st p) tr
theorem deps_len : ∀ (st tr : List Int), (deps st tr).length = tr.length
  | _, [] => rfl
  | st, p :: tr => congrArg Nat.succ (deps_len (upd1 st p) tr)
theorem walk_depths : ∀ (tr st : List Int) (fnd : List (Option Int)), st.length + tr.length < 16777216 → fnd.length + tr.length < 16777216 → forM m_depths_b0 tr (st, fnd) = some (tr.foldl upd1 st, fnd ++ deps st tr)
  | [], st, fnd, _, _ => by simp [J.forM, deps]
  | p :: tr, st, fnd, h1, h2 => by
    simp only [List.length_cons] at h1 h2
    have := upd1_len_le (st := st) p
    show (m_depths_b0 (st, fnd) p).bind (forM m_depths_b0 tr) = _
    rw [depths_step (by omega) (by omega), Option.bind_some, walk_depths tr _ _ (by omega) (by simp; omega)]
    simp [deps]
def cnt (r : Int) (D : List (Option Int)) : Int := ((D.countP (deeper r) : Nat) : Int)
theorem cnt_cons (r : Int) (d : Option Int) (D : List (Option Int)) : cnt r (d :: D) = (if deeper r d = true then 1 else 0) + cnt r D := by
  unfold cnt
  rw [List.countP_cons]
  split <;> omega
def C (r : Int) (tr : List Int) : Int := cnt r (deps [] tr)
theorem depths_ok {tr : List Int} (h : tr.length < 16777216) : m_depths tr = some (deps [] tr) := by
  unfold m_depths
  rw [walk_depths tr [] [] (by simpa using h) (by simpa using h)]
  simp
def nn (D : List (Option Int)) : Nat := D.countP fun d => d.isNone
theorem dep_le {st : List Int} {p d : Int} (h : dep st p = some d) : d ≤ st.length := by
  unfold dep at h
  split at h
  · cases h; omega
  · cases h
theorem deps_le : ∀ (tr st : List Int) (d : Int), some d ∈ deps st tr → d ≤ st.length + nn (deps st tr)
  | [], _, _, h => nomatch h
  | p :: tr, st, d, h => by
    have hl := upd1_lenE (st := st) p
    have hc : nn (deps st (p :: tr)) = (if p ∈ st then 0 else 1) + nn (deps (upd1 st p) tr) := by
      unfold nn
      rw [show deps st (p :: tr) = dep st p :: deps (upd1 st p) tr from rfl, List.countP_cons]
      unfold dep
      by_cases hp : p ∈ st
      · rw [if_pos hp, if_pos hp]; simp
      · rw [if_neg hp, if_neg hp]; simp; omega
    rw [hc]
    rcases List.mem_cons.mp (show some d ∈ dep st p :: deps (upd1 st p) tr from h) with e | e
    · have := dep_le e.symm
      omega
    · have := deps_le tr (upd1 st p) d e
      rw [hl] at this
      omega
theorem C_far {tr : List Int} {r : Int} (h : (nn (deps [] tr) : Int) ≤ r) : C r tr = nn (deps [] tr) := by
  unfold C cnt nn
  congr 1
  refine List.countP_congr fun d hd => ?_
  cases d with
  | none => simp [deeper]
  | some d =>
    have := deps_le tr [] d hd
    simp only [List.length_nil] at this
    simp [deeper]
    omega
theorem forM_map {α β : Type} {f : List β → α → Option (List β)} {g : α → β} : ∀ {xs : List α} {s : List β}, (∀ s x, x ∈ xs → s.length < 16777216 → f s x = some (s ++ [g x])) → s.length + xs.length ≤ 16777216 → forM f xs s = some (s ++ xs.map g)
  | [], s, _, _ => by simp [J.forM]
  | x :: xs, s, h, hl => by
    simp only [List.length_cons] at hl
    show (f s x).bind (forM f xs) = _
    rw [h s x List.mem_cons_self (by omega), Option.bind_some, forM_map (fun s y hy => h s y (List.mem_cons_of_mem _ hy)) (by simp; omega)]
    simp
theorem curve_c0 (r : Int) (d : Option Int) : m_curve_c0 r () d = some (if deeper r d = true then some d else none, ()) := by
  unfold m_curve_c0
  cases d with
  | none => rfl
  | some d =>
    show (J.orM false (some (decide (r < d)))).bind _ = _
    by_cases h : r < d
    · simp [J.orM, deeper, h]
    · simp [J.orM, deeper, h]
def mm (tr : List Int) : Nat := max 1 (nn (deps [] tr))
theorem nn_le (tr : List Int) : nn (deps [] tr) ≤ tr.length := by
  have := List.countP_le_length (p := fun d : Option Int => d.isNone) (l := deps [] tr)
  rw [deps_len] at this
  exact this
theorem cnt_none (D : List (Option Int)) : cntG D none = nn D := by
  unfold cntG nn
  congr 1
  refine List.countP_congr fun d _ => ?_
  cases d <;> simp
theorem curve_ok {tr : List Int} (h : tr.length < 1000000) : m_curve tr = some ((rng 1 (mm tr)).map fun r => C r tr) := by
  have hn := nn_le tr
  unfold m_curve
  rw [depths_ok (by omega), Option.bind_some, cnt_none]
  have e : (if (nn (deps [] tr) : Int) > 1 then (nn (deps [] tr) : Int) else 1) = (mm tr : Nat) := by unfold mm; split <;> omega
  have hm : mm tr ≤ 1000000 := by unfold mm; omega
  rw [e, rngG2_ok (by omega), Option.bind_some, show ((mm tr : Nat) + 1 - 1 : Int).toNat = mm tr by omega]
  rw [forM_map (g := fun r => C r tr) (fun s r _ hs => by
    unfold m_curve_b1
    rw [lcM_filter (p := deeper r) (fun d _ => curve_c0 r d) (by rw [deps_len]; omega), Option.bind_some, psh_ok hs, Option.bind_some]
    congr 3
    unfold C cnt
    rw [List.countP_eq_length_filter]) (by rw [rng_len]; simp; omega)]
  simp
theorem rng_at {lo : Int} {n i : Nat} (h : i < n) : (rng lo n)[i]? = some (lo + i) := by
  unfold rng
  rw [List.getElem?_map, List.getElem?_range h]
  rfl
def T (most : Nat) (tr : List Int) : List Int := (rng 1 most).map fun r => C r tr
theorem faults_ok {tr : List Int} {most : Nat} (h : tr.length < 1000000) (hm : most < 1000000) : m_faults_by_room most tr = some (T most tr) := by
  unfold m_faults_by_room
  rw [curve_ok h, Option.bind_some, rngG2_ok (by omega), Option.bind_some, show ((most : Nat) + 1 - 1 : Int).toNat = most by omega]
  rw [lcM_map (g := fun r => C r tr) (fun r hr => ?_) (by rw [rng_len]; omega)]
  · rfl
  · obtain ⟨h1, h2⟩ := rng_mem hr
    unfold m_faults_by_room_c0
    rw [List.length_map, rng_len]
    have hmm : 1 ≤ mm tr := by unfold mm; omega
    have key : ∀ i : Int, 0 ≤ i → i < mm tr → gx ((rng 1 (mm tr)).map fun r => C r tr) i = some (C (i + 1) tr) := fun i h0 h1 => by
      rw [gx_nat h0, List.getElem?_map, rng_at (by omega)]
      show some _ = some _
      congr 2
      omega
    by_cases c : (mm tr : Int) < r
    · rw [if_pos c, key _ (by omega) (by omega), Option.bind_some, C_far (r := (mm tr : Int) - 1 + 1) (by unfold mm; omega), C_far (r := r) (by unfold mm at c; omega)]
    · rw [if_neg c, key _ (by omega) (by omega), Option.bind_some, show r - 1 + 1 = r by omega]
theorem walk_last {r : Nat} (hr : 1 ≤ r) : ∀ (tr st : List Int) (many : Int), st.Nodup → st.length + tr.length < 16777216 → forM (m_law_last_b0 r) tr (many, st.drop (st.length - r)) = some (many + cnt r (deps st tr), (tr.foldl upd1 st).drop ((tr.foldl upd1 st).length - r))
  | [], st, many, _, _ => by simp [J.forM, deps, cnt]
  | p :: tr, st, many, hn, h1 => by
    simp only [List.length_cons] at h1
    have := upd1_len_le (st := st) p
    show (m_law_last_b0 r (many, st.drop (st.length - r)) p).bind (forM (m_law_last_b0 r) tr) = _
    rw [last_step hn hr (by omega), Option.bind_some, walk_last hr tr _ _ (upd1_nodup hn p) (by omega)]
    rw [show deps st (p :: tr) = dep st p :: deps (upd1 st p) tr from rfl, cnt_cons, List.foldl_cons]
    congr 2
    omega
theorem last_ok {tr : List Int} {r : Int} (hr : 1 ≤ r) (h : tr.length < 16777216) : m_law_last tr r = some (C r tr) := by
  have e : r = ((r.toNat : Nat) : Int) := by omega
  have := walk_last (r := r.toNat) (by omega) tr [] 0 List.nodup_nil (by simpa using h)
  rw [← e] at this
  unfold m_law_last
  rw [show ([] : List Int) = ([] : List Int).drop ([] : List Int).length from rfl] 
  simp only [List.drop_nil, List.length_nil] at this ⊢
  rw [this, Option.bind_some]
  simp [C]
theorem tables_ok {lot : List (List Int)} {most : Nat} (h : ∀ tr ∈ lot, tr.length < 1000000) (hl : lot.length ≤ 1000) (hm : most < 1000000) : m_law_tables lot most = some (lot.map (T most)) := by
  unfold m_law_tables
  rw [lcM_map (g := T most) (fun tr htr => ?_) (by omega)]
  · rfl
  · unfold m_law_tables_c1
    rw [rngG2_ok (by omega), Option.bind_some, show ((most : Nat) + 1 - 1 : Int).toNat = most by omega]
    rw [lcM_map (g := fun r => C r tr) (fun r hr => ?_) (by rw [rng_len]; omega)]
    · rfl
    · unfold m_law_tables_c0
      have := (rng_mem hr).1
      have h2 := h tr htr
      rw [last_ok (by omega) (by omega), Option.bind_some]
theorem look_ok {a : List (List Int)} {n : Int} (h : a.length ≠ 0) (h2 : (a.length : Int) ≤ n) : m_look n a = some () := by
  unfold m_look
  rw [if_neg (by simpa using h), if_neg (by simp; omega)]
structure Lot (lot : List (List Int)) (n : Nat) : Prop where
  ne : lot.length ≠ 0
  few : lot.length ≤ 6
  le : lot.length ≤ n
  n : n ≤ 100
  short : ∀ tr ∈ lot, tr.length ≤ 60
def cf (tr : List Int) : Int → Int := fun r => C r tr
def costs (lot : List (List Int)) : List (Int → Int) := lot.map cf
theorem deal_run {f : Nat} (hf : f ≤ 1000) : ∀ (l : List (List Int)) (cs : List (Int → Int)) (best : Bd), (∀ tr ∈ l, tr.length < 1000000) → cs.length + l.length ≤ f → Dst f cs best → ∃ s, forM (m_deal_b4 (f : Int)) (enu (cs.length : Int) l) best = some s ∧ Dst f (l.reverse.map cf ++ cs) s
  | [], cs, best, _, _, h => ⟨best, rfl, h⟩
  | tr :: l, cs, best, h1, h2, h => by
    simp only [List.length_cons] at h2
    obtain ⟨s, e, hs⟩ := newer_best (f := f) (k := cs.length) (c := cf tr) (tr := tr) hf rfl h (f - cs.length) ((cs.length : Int) + 1) [] (Int.le_refl _) (by omega) (by simp; omega) fun q a b => by omega
    have e1 : m_deal_b4 (f : Int) best ((cs.length : Int), tr) = some s := by
      unfold m_deal_b4
      dsimp only
      rw [faults_ok (h1 tr List.mem_cons_self) (by omega), Option.bind_some, rngG2_ok (by omega), Option.bind_some, show ((f : Int) + 1 - ((cs.length : Int) + 1)).toNat = f - cs.length by omega]
      show (forM (dealB3 best ((cs.length : Int), tr) ((rng 1 f).map (cf tr))) (rng ((cs.length : Int) + 1) (f - cs.length)) []).bind _ = _
      rw [e]
      rfl
    obtain ⟨s', e', hs'⟩ := deal_run hf l (cf tr :: cs) s (fun t ht => h1 t (List.mem_cons_of_mem _ ht)) (by simp; omega) hs
    refine ⟨s', ?_, ?_⟩
    · show (m_deal_b4 (f : Int) best ((cs.length : Int), tr)).bind (forM (m_deal_b4 (f : Int)) (enu ((cs.length : Int) + 1) l)) = _
      rw [e1]
      exact e'
    · rw [List.reverse_cons, List.map_append, List.append_assoc]
      exact hs'
theorem deal_best {lot : List (List Int)} {n : Nat} (h : Lot lot n) : ∃ t, m_deal n lot = some t.2 ∧ BestS (costs lot) n t := by
  have := h.few
  have := h.le
  have := h.n
  unfold m_deal
  rw [look_ok h.ne (by omega), Option.bind_some, rngG_ok (by omega), Option.bind_some, show ((n : Int) + 1).toNat = n + 1 by omega]
  have em2 : J.lcM m_deal_c0 (rng 0 (n + 1)) () = some ((rng 0 (n + 1)).map fun x => (x, (0, ([] : List Int))), ()) := lcM_map (g := fun x => (x, (0, ([] : List Int)))) (fun x _ => rfl) (by rw [rng_len]; omega)
  rw [em2, Option.bind_some]
  obtain ⟨s, e, hs⟩ := deal_run (f := n) (by omega) lot.reverse [] _ (fun tr htr => by have := h.short tr (List.mem_reverse.mp htr); omega) (by rw [List.length_reverse]; simp; omega) (start_best (f := n) (by omega))
  rw [List.reverse_reverse, List.append_nil] at hs
  obtain ⟨t, et, hb⟩ := hs.at_ n (by rw [List.length_map]; omega) (Int.le_refl _)
  refine ⟨t, ?_, hb⟩
  have e : J.forM (m_deal_b4 (n : Int)) (J.enu 0 lot.reverse) (J.dOf ((rng 0 (n + 1)).map fun x => (x, ((0 : Int), ([] : List Int))))) = some s := e
  dsimp only
  rw [e, Option.bind_some, et]
  rfl
theorem traces_ok {N fold left turn : Int} {great : List Int} (h : Bg N fold left turn great) (hN : N < 100000) : Tot (m_law_traces 4 14 great left turn fold) fun r => ((1 ≤ r.1.length ∧ r.1.length ≤ 4) ∧ ∀ tr ∈ r.1, tr.length ≤ 14) ∧ Bg (N + 1000) fold r.2.1 r.2.2.1 r.2.2.2 := by
  unfold m_law_traces
  refine tot_bind (draw_ok h (by omega) (by omega)) fun r hr => ?_
  obtain ⟨⟨r0, r1⟩, hb⟩ := hr
  rw [rngG_ok (by omega)]
  refine tot_let ?_
  refine tot_bind (tot_lcB (I := fun k s => Bg (N + 1 + 130 * k) fold s.1 s.2.1 s.2.2) (R := fun _ tr => tr.length ≤ 14) (hb.mono (by omega)) (by rw [rng_len]; omega) fun k s x hx hk hI => ?_) fun s hs => ?_
  · rw [rng_len] at hk
    unfold m_law_traces_c0
    refine tot_bind (draw_ok hI (by omega) (by omega)) fun u hu => ?_
    obtain ⟨⟨u0, u1⟩, hb⟩ := hu
    refine tot_bind (trace_ok hb (by omega) (by omega) (by omega)) fun v hv => ?_
    obtain ⟨v1, hb⟩ := hv
    exact tot_some ⟨⟨_, rfl, by omega⟩, hb.mono (by omega)⟩
  · obtain ⟨hl, hs, hb⟩ := hs
    rw [rng_len] at hl hb
    exact tot_some ⟨⟨by dsimp only; omega, fun tr htr => by obtain ⟨_, _, h⟩ := hs tr htr; exact h⟩, hb.mono (by omega)⟩
theorem rng_succ (lo : Int) (n : Nat) : rng lo (n + 1) = lo :: rng (lo + 1) n := by
  unfold rng
  rw [List.range_succ_eq_map, List.map_cons, List.map_map]
  congr 1
  · simp
  · apply List.map_congr_left
    intro i _
    simp only [Function.comp_apply]
    omega
theorem DC_range : ∀ {lot : List (List Int)} {sz : List Int}, lot.length = sz.length → ((rng 0 lot.length).map fun k => C (sz.getD k.toNat 0) (lot.getD k.toNat [])).sum = DC (costs lot) sz
  | [], [], _ => rfl
  | [], _ :: _, h => by simp at h
  | _ :: _, [], h => by simp at h
  | tr :: lot, s :: sz, h => by
    have ih := DC_range (lot := lot) (sz := sz) (by simpa using h)
    rw [List.length_cons, rng_succ, List.map_cons, List.sum_cons]
    show C s tr + _ = C s tr + DC (costs lot) sz
    rw [← ih]
    congr 2
    unfold rng
    rw [List.map_map, List.map_map]
    apply List.map_congr_left
    intro i _
    simp only [Function.comp_apply]
    rw [show ((0 : Int) + 1 + (i : Int)).toNat = i + 1 by omega, show ((0 : Int) + (i : Int)).toNat = i by omega]
    rfl
/-! ### all lists -/
theorem costs_len (lot : List (List Int)) : (costs lot).length = lot.length := by unfold costs; rw [List.length_map]
def ext (many left : Int) (j : Int) (one : List Int) : List (List Int) := (rng 1 (left - one.sum - (many - j - 1)).toNat).map fun r => one ++ [r]
def LS (many left : Int) : Nat → List (List Int)
  | 0 => [[]]
  | j + 1 => (LS many left j).flatMap (ext many left j)
structure Sml (many left : Int) : Prop where
  a : 0 ≤ many ∧ many ≤ 4
  b : many ≤ left ∧ left ≤ 9
theorem LS_mem {many left : Int} (h : Sml many left) : ∀ (j : Nat), (j : Int) ≤ many → ∀ sz, sz ∈ LS many left j ↔ Fs j (left - (many - j)) sz
  | 0, hj, sz => by
    have ha := h.a
    have hb := h.b
    constructor
    · intro hm
      rw [List.mem_singleton.mp (show sz ∈ [[]] from hm)]
      exact ⟨rfl, fun s h => (nomatch h), by simp; omega⟩
    · intro hf
      have : sz = [] := List.length_eq_zero_iff.mp hf.len
      subst this
      exact List.mem_singleton.mpr rfl
  | j + 1, hj, sz => by
    have ih := LS_mem h j (by omega)
    constructor
    · intro hm
      obtain ⟨one, ho, hs⟩ := List.mem_flatMap.mp (show sz ∈ (LS many left j).flatMap (ext many left j) from hm)
      obtain ⟨r, hr, rfl⟩ := List.mem_map.mp hs
      have hr := rng_mem hr
      obtain ⟨l, p, q⟩ := (ih one).mp ho
      refine ⟨by simp [l], fun s hs => ?_, ?_⟩
      · rcases List.mem_append.mp hs with hs | hs
        · exact p s hs
        · rw [List.mem_singleton.mp hs]
          omega
      · rw [List.sum_append, List.sum_cons, List.sum_nil]
        omega
    · intro hf
      obtain ⟨l, p, q⟩ := hf
      have hne : sz ≠ [] := by intro e; rw [e] at l; simp at l
      obtain ⟨one, r, rfl⟩ : ∃ one r, sz = one ++ [r] := ⟨sz.dropLast, sz.getLast hne, (List.dropLast_concat_getLast hne).symm⟩
      rw [List.sum_append, List.sum_cons, List.sum_nil] at q
      have hr := p r (List.mem_append_right _ List.mem_cons_self)
      rw [List.length_append, List.length_cons, List.length_nil] at l
      refine List.mem_flatMap.mpr ⟨one, (ih one).mpr ⟨by omega, fun s hs => p s (List.mem_append_left _ hs), by omega⟩, List.mem_map.mpr ⟨r, ?_, rfl⟩⟩
      unfold rng
      exact List.mem_map.mpr ⟨(r - 1).toNat, List.mem_range.mpr (by omega), by omega⟩
theorem ext_small {many left : Int} (h : Sml many left) {j : Nat} (hj : (j : Int) + 1 ≤ many) {one : List Int} (ho : one ∈ LS many left j) : (left - one.sum - (many - j - 1)) ≤ 9 ∧ 0 ≤ (left - one.sum - (many - j - 1)) ∧ one.length = j := by
  obtain ⟨l, p, q⟩ := (LS_mem h j (by omega) one).mp ho
  have := sum_pos p
  have ha := h.a
  have hb := h.b
  omega
theorem flat_len {α β : Type} {f : α → List β} {n : Nat} : ∀ {xs : List α}, (∀ x ∈ xs, (f x).length ≤ n) → (xs.flatMap f).length ≤ n * xs.length
  | [], _ => by simp
  | x :: xs, h => by
    have h1 := h x List.mem_cons_self
    have h2 := flat_len (f := f) (n := n) (xs := xs) fun y hy => h y (List.mem_cons_of_mem _ hy)
    rw [List.flatMap_cons, List.length_append, List.length_cons, Nat.mul_succ]
    omega
theorem ext_len {many left : Int} (h : Sml many left) {j : Nat} (hj : (j : Int) + 1 ≤ many) {one : List Int} (ho : one ∈ LS many left j) : (ext many left j one).length ≤ 9 := by
  have := ext_small h hj ho
  unfold ext
  rw [List.length_map, rng_len]
  omega
theorem LS_len {many left : Int} (h : Sml many left) : ∀ (j : Nat), (j : Int) ≤ many → (LS many left j).length ≤ 9 ^ j
  | 0, _ => Nat.le_refl _
  | j + 1, hj => by
    have ih := LS_len h j (by omega)
    have := flat_len (f := ext many left j) (n := 9) (xs := LS many left j) fun one ho => ext_len h (by omega) ho
    show ((LS many left j).flatMap (ext many left j)).length ≤ _
    rw [Nat.pow_succ, Nat.mul_comm]
    exact Nat.le_trans this (Nat.mul_le_mul_left 9 ih)
theorem LS_few {many left : Int} (h : Sml many left) {j : Nat} (hj : (j : Int) ≤ many) : (LS many left j).length ≤ 6561 := by
  have ha := h.a
  refine Nat.le_trans (LS_len h j hj) (Nat.le_trans (Nat.pow_le_pow_right (by omega) (show j ≤ 4 by omega)) (by decide))
theorem b1_run {many left : Int} (h : Sml many left) {j : Nat} (hj : (j : Int) + 1 ≤ many) : ∀ (found acc : List (List Int)), (∀ one ∈ found, one ∈ LS many left j) → acc.length + 9 * found.length ≤ 1000000 → forM (m_law_lists_b1 many left (j : Int)) found acc = some (acc ++ found.flatMap (ext many left j))
  | [], acc, _, _ => by simp [J.forM]
  | one :: found, acc, h1, h2 => by
    have ho := h1 one List.mem_cons_self
    obtain ⟨e1, e2, e3⟩ := ext_small h hj ho
    have e4 := ext_len h hj ho
    have ha := h.a
    rw [List.length_cons] at h2
    have e : m_law_lists_b1 many left (j : Int) acc one = some (acc ++ ext many left j one) := by
      unfold m_law_lists_b1
      rw [Option.bind_some, rngG2_ok (by omega), Option.bind_some, show (left - one.sum - (many - (j : Int) - 1) + 1 - 1) = left - one.sum - (many - j - 1) by omega]
      rw [lcM_map (g := fun r => one ++ [r]) (fun r _ => by
        unfold m_law_lists_c0
        rw [catG_ok (by simp; omega)]
        rfl) (by rw [rng_len]; omega), Option.bind_some]
      show (catG acc (ext many left j one)).bind _ = _
      rw [catG_ok (by omega)]
      rfl
    show (m_law_lists_b1 many left (j : Int) acc one).bind _ = _
    rw [e]
    refine Eq.trans (b1_run h hj found (acc ++ ext many left j one) (fun x hx => h1 x (List.mem_cons_of_mem _ hx)) (by rw [List.length_append]; omega)) ?_
    rw [List.flatMap_cons, List.append_assoc]
theorem b2_run {many left : Int} (h : Sml many left) : ∀ (n j : Nat), (j : Int) + n = many → forM (m_law_lists_b2 many left) (rng j n) (LS many left j) = some (LS many left (j + n))
  | 0, j, _ => rfl
  | n + 1, j, hn => by
    have rc : rng (j : Int) (n + 1) = (j : Int) :: rng ((j + 1 : Nat) : Int) n := by rw [rng_succ]; rfl
    have few := LS_few h (j := j) (by omega)
    have e : m_law_lists_b2 many left (LS many left j) (j : Int) = some (LS many left (j + 1)) := by
      unfold m_law_lists_b2
      rw [b1_run h (by omega) _ [] (fun _ hx => hx) (by simp; omega)]
      rfl
    rw [rc]
    show (m_law_lists_b2 many left (LS many left j) (j : Int)).bind _ = _
    rw [e]
    refine Eq.trans (b2_run h n (j + 1) (by omega)) ?_
    rw [show j + 1 + n = j + (n + 1) by omega]
theorem lists_ok {many : Nat} {left : Int} (h : Sml many left) : m_law_lists (many : Int) left = some (LS many left many) := by
  have ha := h.a
  unfold m_law_lists
  rw [Option.bind_some, rngG_ok (by omega), Option.bind_some, Int.toNat_natCast]
  have e := b2_run h many 0 (by omega)
  have e : forM (m_law_lists_b2 (many : Int) left) (rng 0 many) [[]] = some (LS many left (0 + many)) := e
  rw [e, Nat.zero_add]
  rfl
/-! ### what they cost -/
theorem cost_ok {lot : List (List Int)} {n : Nat} {one : List Int} (hl : lot.length ≤ 10) (hn : n ≤ 100) (hf : Fs lot.length n one) : lcM (m_law_c0 (lot.map (T n)) one) (rng 0 lot.length) () = some ((rng 0 lot.length).map fun k => C (one.getD k.toNat 0) (lot.getD k.toNat []), ()) := by
  have hlen := hf.len
  refine lcM_map (fun k hk => ?_) (by rw [rng_len]; omega)
  obtain ⟨i, rfl⟩ : ∃ i : Nat, k = i := ⟨k.toNat, by have := rng_mem hk; omega⟩
  have hi := rng_mem hk
  have hi1 : i < lot.length := by omega
  have hi2 : i < one.length := by omega
  have pos := hf.pos _ (List.getElem_mem hi2)
  have le : one[i] ≤ n := by
    have h1 := hf.sum
    have h2 : ∀ (l : List Int), (∀ s ∈ l, 1 ≤ s) → ∀ s ∈ l, s ≤ l.sum := fun l => by
      induction l with
      | nil => intro _ s hs; cases hs
      | cons x l ih =>
        intro hp s hs
        have := sum_pos (sz := l) fun y hy => hp y (List.mem_cons_of_mem _ hy)
        have px := hp x List.mem_cons_self
        rw [List.sum_cons]
        rcases List.mem_cons.mp hs with rfl | hs
        · omega
        · have := ih (fun y hy => hp y (List.mem_cons_of_mem _ hy)) s hs
          omega
    have := h2 one hf.pos _ (List.getElem_mem hi2)
    omega
  unfold m_law_c0
  rw [gx_nat (by omega), Int.toNat_natCast, List.getElem?_map, List.getElem?_eq_getElem hi1]
  show (some (T n lot[i])).bind _ = _
  rw [Option.bind_some, gx_nat (by omega), Int.toNat_natCast, List.getElem?_eq_getElem hi2, Option.bind_some]
  have e : gx (T n lot[i]) (one[i] - 1) = some (C one[i] lot[i]) := by
    unfold T
    rw [gx_nat (by omega), List.getElem?_map, rng_at (by omega)]
    show some _ = some _
    congr 2
    omega
  rw [e, Option.bind_some]
  simp [List.getD, hi1, hi2]
theorem costs_run {lot : List (List Int)} {n : Nat} {u : Int × (Int × List Int)} (hl : lot.length ≤ 10) (hn : n ≤ 100) : ∀ (found : List (List Int)) (acc : List Pr), (∀ one ∈ found, Fs lot.length n one) → acc.length + found.length ≤ 1000000 → forM (m_law_b1 (lot, u) (lot.map (T n))) found acc = some (acc ++ found.map fun one => (DC (costs lot) one, one))
  | [], acc, _, _ => by simp [J.forM]
  | one :: found, acc, h1, h2 => by
    have hf := h1 one List.mem_cons_self
    rw [List.length_cons] at h2
    have e : m_law_b1 (lot, u) (lot.map (T n)) acc one = some (acc ++ [(DC (costs lot) one, one)]) := by
      unfold m_law_b1
      dsimp only
      rw [rngG_ok (by omega), Option.bind_some, Int.toNat_natCast, cost_ok hl hn hf, Option.bind_some]
      dsimp only
      rw [DC_range (by rw [hf.len]), psh_ok (by omega)]
      rfl
    show (m_law_b1 (lot, u) (lot.map (T n)) acc one).bind _ = _
    rw [e]
    refine Eq.trans (costs_run hl hn found _ (fun x hx => h1 x (List.mem_cons_of_mem _ hx)) (by rw [List.length_append, List.length_cons, List.length_nil]; omega)) ?_
    rw [List.map_cons, List.append_assoc]
    rfl
theorem lp_anti {s t : Pr} (h : lp s t) (k : lp t s) : s = t := by
  rcases h with h | ⟨h, h'⟩
  · rcases k with k | ⟨k, _⟩ <;> omega
  · rcases k with k | ⟨k, k'⟩
    · omega
    · exact Prod.ext h (lexle_anti h' k')
theorem least_ok {lot : List (List Int)} {n : Nat} {t : Pr} {L : List (List Int)} (hb : BestS (costs lot) n t) (hL : ∀ sz, sz ∈ L ↔ Fs lot.length n sz) : minG (L.map fun one => (DC (costs lot) one, one)) = some t := by
  have hf : Fs lot.length n t.2 := costs_len lot ▸ hb.fs
  have hm : t ∈ L.map fun one => (DC (costs lot) one, one) := List.mem_map.mpr ⟨t.2, (hL _).mpr hf, Prod.ext hb.val.symm rfl⟩
  obtain ⟨m, hm2, em, hmin⟩ := minG_rel (R := lp) lp_refl (fun _ _ _ => lp_trans) (fun _ _ => lp_lt) (fun _ _ => lp_nlt) (xs := L.map fun one => (DC (costs lot) one, one)) (fun e => by rw [e] at hm; cases hm)
  rw [em]
  obtain ⟨one, ho, rfl⟩ := List.mem_map.mp hm2
  have h1 := hmin t hm
  have h2 := hb.least one (costs_len lot ▸ (hL one).mp ho)
  rw [lp_anti h1 h2]
theorem law_true (ns : List Int) (hl : ns.length ≤ 63) : m_law ns = some true := by
  have key : Tot (m_law ns) fun r => r = true := by
    unfold m_law
    refine tot_bind (bag_ok hl) fun b hb => ?_
    rw [rngG_ok (by split <;> omega), Option.bind_some]
    have hlen : (rng 0 (1 + (if (ns.length : Int) < 2 then (ns.length : Int) else 2)).toNat).length ≤ 3 := by rw [rng_len]; split <;> omega
    generalize rng 0 (1 + (if (ns.length : Int) < 2 then (ns.length : Int) else 2)).toNat = turns at hlen
    have run : ∀ (turns : List Int) (N : Int) (s : Int × (Int × List Int)), Bg N b.2.2.2 s.1 s.2.1 s.2.2 → N + 2000 * turns.length ≤ 50000 → ∃ s', forL (m_law_b3 b) turns s = some (.inl s') := by
      intro turns
      induction turns with
      | nil => exact fun _ s _ _ => ⟨s, rfl⟩
      | cons x turns ih =>
        intro N s hs hN
        rw [List.length_cons] at hN
        have hN : N + 2000 * ((turns.length : Int) + 1) ≤ 50000 := by have := hN; push_cast at this; exact this
        have step : Tot (m_law_b3 b s x) fun r => ∃ s', r = .nx s' ∧ Bg (N + 2000) b.2.2.2 s'.1 s'.2.1 s'.2.2 := by
          unfold m_law_b3
          refine tot_bind (traces_ok hs (by omega)) fun x8 h8 => ?_
          obtain ⟨⟨⟨l1, l4⟩, sh⟩, hb⟩ := h8
          refine tot_bind (draw_ok hb (by omega) (by omega)) fun x9 h9 => ?_
          obtain ⟨⟨d0, d1⟩, hb9⟩ := h9
          obtain ⟨lot, u⟩ := x8
          dsimp only at l1 l4 sh hb ⊢
          obtain ⟨n, hn⟩ : ∃ n : Nat, ((lot.length : Nat) : Int) + x9.1 = n := ⟨(((lot.length : Nat) : Int) + x9.1).toNat, by omega⟩
          have hLot : Lot lot n := ⟨by omega, by omega, by omega, by omega, fun tr h => by have := sh tr h; omega⟩
          rw [Option.bind_some, hn, tables_ok (fun tr h => by have := sh tr h; omega) (by omega) (by omega), Option.bind_some]
          have sm : Sml (lot.length : Int) (n : Int) := ⟨by omega, by omega⟩
          rw [lists_ok sm, Option.bind_some]
          have hL : ∀ sz, sz ∈ LS (lot.length : Int) (n : Int) lot.length ↔ Fs lot.length n sz := fun sz => by
            have := LS_mem sm lot.length (Int.le_refl _) sz
            rw [show (n : Int) - ((lot.length : Int) - lot.length) = n by omega] at this
            exact this
          have few := LS_few sm (j := lot.length) (Int.le_refl _)
          rw [costs_run (by omega) (by omega) _ [] (fun one ho => (hL one).mp ho) (by simp; omega), Option.bind_some, List.nil_append]
          rw [lcM_map (g := fun x : List Int => x) (fun _ _ => rfl) (by omega), Option.bind_some, List.map_id']
          dsimp only
          obtain ⟨t, et, hbest⟩ := deal_best hLot
          rw [et, Option.bind_some, least_ok hbest hL]
          have o1 : (J.orM (!true) ((some t).bind fun x34 : Pr => some ((decide (t.2 ≠ x34.2)) || (decide (lot ≠ lot))))) = some false := by
            unfold J.orM
            simp
          have tl := hbest.fs.len
          rw [costs_len] at tl
          rw [o1, Option.bind_some, if_neg (by decide), psh_ok (by omega), Option.bind_some, Option.bind_some, Option.bind_some, decide_eq_false (fun h => h rfl), if_neg (by decide)]
          exact tot_some ⟨(x9.2.1, (x9.2.2.1, x9.2.2.2)), rfl, Bg.mono (N := N + 1000 + 1) (M := N + 2000) hb9 (by omega)⟩
        obtain ⟨r, e, s', rfl, hs'⟩ := step
        obtain ⟨s2, e2⟩ := ih (N + 2000) s' hs' (by omega)
        refine ⟨s2, ?_⟩
        show (m_law_b3 b s x).bind _ = _
        rw [e]
        exact e2
    obtain ⟨s', e⟩ := run turns 0 (b.2.1, (b.2.2.1, b.1)) hb (by omega)
    rw [e, Option.bind_some, Sum.elim_inl]
    exact tot_some rfl
  obtain ⟨r, e, rfl⟩ := key
  exact e
end Gk53
namespace Gk53
open PySem PySem.Spec PyProof.Rows L2
/-! ### the head: facts by names, the run -/
def h__law_bag : He.DefD := ⟨("_law_bag", none), "_law_bag", "_law_bag", defArgs s__law_bag, defBody s__law_bag, defScope s__law_bag, [], []⟩
def h__law_draw : He.DefD := ⟨("_law_draw", none), "_law_draw", "_law_draw", defArgs s__law_draw, defBody s__law_draw, defScope s__law_draw, [], []⟩
def h__law_trace : He.DefD := ⟨("_law_trace", none), "_law_trace", "_law_trace", defArgs s__law_trace, defBody s__law_trace, defScope s__law_trace, [], []⟩
def h__law_traces : He.DefD := ⟨("_law_traces", none), "_law_traces", "_law_traces", defArgs s__law_traces, defBody s__law_traces, defScope s__law_traces, [], []⟩
def h__law_last : He.DefD := ⟨("_law_last", none), "_law_last", "_law_last", defArgs s__law_last, defBody s__law_last, defScope s__law_last, [], []⟩
def h__law_tables : He.DefD := ⟨("_law_tables", none), "_law_tables", "_law_tables", defArgs s__law_tables, defBody s__law_tables, defScope s__law_tables, [], []⟩
def h__law_lists : He.DefD := ⟨("_law_lists", none), "_law_lists", "_law_lists", defArgs s__law_lists, defBody s__law_lists, defScope s__law_lists, [], []⟩
def h_look : He.DefD := ⟨("look", none), "look", "look", defArgs s_look, defBody s_look, defScope s_look, [], []⟩
def h_depths : He.DefD := ⟨("depths", none), "depths", "depths", defArgs s_depths, defBody s_depths, defScope s_depths, [], []⟩
def h_curve : He.DefD := ⟨("curve", none), "curve", "curve", defArgs s_curve, defBody s_curve, defScope s_curve, [], []⟩
def h_faults_by_room : He.DefD := ⟨("faults_by_room", none), "faults_by_room", "faults_by_room", defArgs s_faults_by_room, defBody s_faults_by_room, defScope s_faults_by_room, [], []⟩
def h_deal : He.DefD := ⟨("deal", none), "deal", "deal", defArgs s_deal, defBody s_deal, defScope s_deal, [], []⟩
def h_law : He.DefD := ⟨("law", none), "law", "law", defArgs s_law, defBody s_law, defScope s_law, [], []⟩
def fn : List He.DefD := [h__law_bag, h__law_draw, h__law_trace, h__law_traces, h__law_last, h__law_tables, h__law_lists, h_look, h_depths, h_curve, h_faults_by_room, h_deal, h_law]
def fa : List He.Fa := [.glo "_law_bag", .glo "_law_draw", .glo "_law_trace", .glo "_law_traces", .glo "_law_last", .glo "_law_tables", .glo "_law_lists", .glo "look", .glo "depths", .glo "curve", .glo "faults_by_room", .glo "deal", .glo "law", .free "abs", .free "enumerate", .free "isinstance", .free "len", .free "list", .free "max", .free "min", .free "range", .free "reversed", .free "sum"]
abbrev R : PySem.W.OpenRow := PySem.W.OpenLaw.row PySem.Challenge.rw_pagerooms_k53_rooms_dealt
abbrev hk : PySem.W.Hook := He.hookD 4 fa fn
def ob (s : PySem.W.SharedT) : He.AlD := He.obsDG 4 fa fn (HandSHeadRun.getT s)
theorem ob_eq (s : PySem.W.SharedT) : ob s = hk.obs s.abs := He.obsDG_eq (HandSHeadRun.getT_eq s)
theorem run (w : World) : HandSHeadRun.RunEq R (PySem.W.view R.prog [19]) hk ob 6000 ["PageError", "NoRoom", "NoTask", "depths", "curve", "look", "faults_by_room", "deal", "_law_bag", "_law_draw", "_law_trace", "_law_traces", "_law_last", "_law_tables", "_law_lists"] w := by
  intro os
  kernel_rfl
theorem facts {P : Program} {w : World} {K : PySem.W.Frag} {h : Heap} {mg : Str → Option Value} {f : Addr} (X : K.In h) (G : h.Ns mainGlobals mg) (hfa : mg ("law" : Str) = some (.ref f)) (c : He.SaysD fa fn K) :
    ∃ fd : FuncData, (∀ (s : Shared) (v : Value), BindsTo s fd ⟨[v], []⟩ [("script", v)]) ∧ ∀ base : Heap, K.In base → base.Ns mainGlobals mg → FnOk P w K mg base CX0 5 f fd ["script"] (F_law K).sp := by
  obtain ⟨fd0, FD0⟩ := c.def_ 0 (d := h__law_bag) rfl
  obtain ⟨fd1, FD1⟩ := c.def_ 1 (d := h__law_draw) rfl
  obtain ⟨fd2, FD2⟩ := c.def_ 2 (d := h__law_trace) rfl
  obtain ⟨fd3, FD3⟩ := c.def_ 3 (d := h__law_traces) rfl
  obtain ⟨fd4, FD4⟩ := c.def_ 4 (d := h__law_last) rfl
  obtain ⟨fd5, FD5⟩ := c.def_ 5 (d := h__law_tables) rfl
  obtain ⟨fd6, FD6⟩ := c.def_ 6 (d := h__law_lists) rfl
  obtain ⟨fd7, FD7⟩ := c.def_ 7 (d := h_look) rfl
  obtain ⟨fd8, FD8⟩ := c.def_ 8 (d := h_depths) rfl
  obtain ⟨fd9, FD9⟩ := c.def_ 9 (d := h_curve) rfl
  obtain ⟨fd10, FD10⟩ := c.def_ 10 (d := h_faults_by_room) rfl
  obtain ⟨fd11, FD11⟩ := c.def_ 11 (d := h_deal) rfl
  obtain ⟨fd12, FD12⟩ := c.def_ 12 (d := h_law) rfl
  have e := hfa.symm.trans (He.glo_ok X G (c.fact 12 (f := .glo "law") rfl))
  cases e
  have b := FunD.bindsA (ps := ["script"]) FD12 fun _ _ _ _ _ _ us hl => match us, hl with | [_], _ => rfl
  exact ⟨fd12, fun s v => b s [v] rfl, fun base _ _ => ok_law (P := P) (w := w) (base := base) (⟨_, fd0, FD0, He.glo_ok X G (c.fact 0 (f := .glo "_law_bag") rfl), FD0.bindsN (ps := ["script"]) (fun _ _ _ _ _ _ us hl => match us, hl with | [_], _ => rfl),
      _, fd1, FD1, He.glo_ok X G (c.fact 1 (f := .glo "_law_draw") rfl), FD1.bindsN (ps := ["bag", "many"]) (fun _ _ _ _ _ _ us hl => match us, hl with | [_, _], _ => rfl),
      _, fd2, FD2, He.glo_ok X G (c.fact 2 (f := .glo "_law_trace") rfl), FD2.bindsN (ps := ["bag", "most", "wide"]) (fun _ _ _ _ _ _ us hl => match us, hl with | [_, _, _], _ => rfl),
      _, fd3, FD3, He.glo_ok X G (c.fact 3 (f := .glo "_law_traces") rfl), FD3.bindsN (ps := ["bag", "most", "long"]) (fun _ _ _ _ _ _ us hl => match us, hl with | [_, _, _], _ => rfl),
      _, fd4, FD4, He.glo_ok X G (c.fact 4 (f := .glo "_law_last") rfl), FD4.bindsN (ps := ["trace", "room_of"]) (fun _ _ _ _ _ _ us hl => match us, hl with | [_, _], _ => rfl),
      _, fd5, FD5, He.glo_ok X G (c.fact 5 (f := .glo "_law_tables") rfl), FD5.bindsN (ps := ["lot", "most"]) (fun _ _ _ _ _ _ us hl => match us, hl with | [_, _], _ => rfl),
      _, fd6, FD6, He.glo_ok X G (c.fact 6 (f := .glo "_law_lists") rfl), FD6.bindsN (ps := ["many", "left"]) (fun _ _ _ _ _ _ us hl => match us, hl with | [_, _], _ => rfl),
      _, fd7, FD7, He.glo_ok X G (c.fact 7 (f := .glo "look") rfl), FD7.bindsN (ps := ["traces", "frames"]) (fun _ _ _ _ _ _ us hl => match us, hl with | [_, _], _ => rfl),
      _, fd8, FD8, He.glo_ok X G (c.fact 8 (f := .glo "depths") rfl), FD8.bindsN (ps := ["trace"]) (fun _ _ _ _ _ _ us hl => match us, hl with | [_], _ => rfl),
      _, fd9, FD9, He.glo_ok X G (c.fact 9 (f := .glo "curve") rfl), FD9.bindsN (ps := ["trace"]) (fun _ _ _ _ _ _ us hl => match us, hl with | [_], _ => rfl),
      _, fd10, FD10, He.glo_ok X G (c.fact 10 (f := .glo "faults_by_room") rfl), FD10.bindsN (ps := ["trace", "most"]) (fun _ _ _ _ _ _ us hl => match us, hl with | [_, _], _ => rfl),
      _, fd11, FD11, He.glo_ok X G (c.fact 11 (f := .glo "deal") rfl), FD11.bindsN (ps := ["traces", "frames"]) (fun _ _ _ _ _ _ us hl => match us, hl with | [_, _], _ => rfl),
      _, fd12, FD12, He.glo_ok X G (c.fact 12 (f := .glo "law") rfl), FD12.bindsN (ps := ["script"]) (fun _ _ _ _ _ _ us hl => match us, hl with | [_], _ => rfl),
      He.free_ok X G (c.fact 13 (f := .free "abs") rfl),
      He.free_ok X G (c.fact 14 (f := .free "enumerate") rfl),
      He.free_ok X G (c.fact 15 (f := .free "isinstance") rfl),
      He.free_ok X G (c.fact 16 (f := .free "len") rfl),
      He.free_ok X G (c.fact 17 (f := .free "list") rfl),
      He.free_ok X G (c.fact 18 (f := .free "max") rfl),
      He.free_ok X G (c.fact 19 (f := .free "min") rfl),
      He.free_ok X G (c.fact 20 (f := .free "range") rfl),
      He.free_ok X G (c.fact 21 (f := .free "reversed") rfl),
      He.free_ok X G (c.fact 22 (f := .free "sum") rfl)⟩ : Wd K mg)⟩
end Gk53
open PySem PySem.W PySem.Calls PyProof.Rows
theorem PySem.Challenge.cw_pagerooms_k53_rooms_dealt_holds : PySem.Challenge.rw_pagerooms_k53_rooms_dealt.Holds := by
  w_on; o_law
  refine HandSHeadRun.head_any (r := OpenLaw.row PySem.Challenge.rw_pagerooms_k53_rooms_dealt) (q := view (OpenLaw.row PySem.Challenge.rw_pagerooms_k53_rooms_dealt).prog [19]) (H := Gk53.hk) (ob := Gk53.ob) (M := 6000) (loose := ["PageError", "NoRoom", "NoTask", "depths", "curve", "look", "faults_by_room", "deal", "_law_bag", "_law_draw", "_law_trace", "_law_traces", "_law_last", "_law_tables", "_law_lists"]) (d := HandSHeadRun.topDef (OpenLaw.row PySem.Challenge.rw_pagerooms_k53_rooms_dealt).prog 19) (kwd := []) Gk53.ob_eq
    (by kernel_rfl) (fun s => by kernel_rfl) Gk53.run (by kernel_rfl) (by kernel_rfl) (by kernel_rfl) (by rfl) (by first | assumption | decide +kernel) (by decide +kernel) ⟨rfl, rfl, rfl, rfl, rfl, by decide +kernel⟩ ?hw ?hc
  case hw => w_witness2
  case hc =>
    refine L2.walk_ofE (l := PySem.Challenge.rw_pagerooms_k53_rooms_dealt) (n := 63) (k := 5) (x := "script") (CX := L2.CX0) rfl (by decide) (by kernel_rfl) ⟨rfl, by decide, by decide⟩ ?F (fun _ _ _ _ z => z)
    intro w mg fa h Y G hmg0
    obtain ⟨K, KX, c⟩ := Y
    have hmg : mg ("law" : PySem.Str) = some (.ref fa) := by
      have e : (HandSHeadRun.topDef (OpenLaw.row PySem.Challenge.rw_pagerooms_k53_rooms_dealt).prog 19).name = ("law" : PySem.Str) := by kernel_rfl
      rw [← e]
      exact hmg0
    obtain ⟨fd, hb, hF⟩ := Gk53.facts (P := (PySem.Challenge.rw_pagerooms_k53_rooms_dealt).prog) (w := w) KX G hmg c
    exact ⟨K, fd, (Gk53.F_law K).sp, KX, hb, fun H a ns hl _ hS => ⟨⟨a, ns, true⟩, ⟨H, H⟩, Gk53.law_true ns hl, hS, J.sta0, fun v H' h => J.out_true h⟩, hF⟩
