import PyProof.Rows.All
import PySem.Challenge.RW_pagerooms_k22_working_pages
import Wide.All
import OpenK.AllK
import Wide.FinOn
import HandS.ForMost
import KE.Datum
import HandS.Wide
import HandS.Walk
import HandS.SetFor
import KE.DatumIndex
import KE.DatumMore
import KE.DatumOrd
import KE.SortData
import HandS.Defaults
import HandS.Style
import HandS.Zip
import HandS.SortOrd
import HandS.SortInts
import HandS.IsInst
import HandS.WordsDict
import HandS.SortRule
import HandS.SortKw
import HandS.Conv
import HandS.Iter
import HandS.MakeKwOnly
import HandS.HeadHook4
import KE.GoesEnum
import HandS.Exc
import HandS.ExcOwn
import HandS.ExcInit
import HandS.ExcField
import HandS.ExcCtx
import KE.KExcIs
import KE.KIsAll
import HandS.Lambda
import KE.KMinKey
import HandS.HeadWalk
import KE.DatumMoreOrd
import KE.GoesEnumKw
import HandS.DictComp
import HandS.NoneIn
import HandS.TupLen
import HandS.DictTup
import PyProof.DictMoreH
import PyProof.ReprRoads
import HandS.MakeKw
import HandS.Head0
import HandS.Head1
import HandS.Head2
import HandS.HeadEnd
import HandS.HeadHook1
import HandS.HeadHook2
set_option Elab.async false
set_option linter.all false
set_option maxRecDepth 100000
set_option maxHeartbeats 0
namespace J
open PySem L2
open PySem.W (Datum)
/-! typed slots: what a value of the heap stands for -/
mutual
inductive Slot : Type 1 where
  | any
  | v (x : V)
  | val {α : Type} [DecidableEq α] [Datum α] (x : α)
  | own (c : Cel)
  | ownA (q : Addr) (c : Cel)
  | say (φ : (Addr → Option HO) → V → Prop)
  | otup (ss : List Slot)
inductive Cel : Type 1 where
  | lst (ss : List Slot)
  | ins (C : Addr) (fs : List (Str × Slot))
  | dk (ks : List Key) (ss : List Slot)
  | fdk (o : Obj) (gs : List (Key × V)) (ss : List Slot)
  | gone
  | say (ψ : (Addr → Option HO) → HO → Prop)
end
abbrev Ex (H H' : Hp) : Prop := ∀ a o, H a = some o → H' a = some o
theorem Ex.refl (H : Hp) : Ex H H := fun _ _ h => h
/-- what is said of a value for good -/
def Mono (φ : Hp → V → Prop) : Prop := ∀ G G' u, Ex G G' → φ G u → φ G' u
def MonoC (ψ : Hp → HO → Prop) : Prop := ∀ G G' o, Ex G G' → ψ G o → ψ G' o
theorem Ex.trans {H H1 H2 : Hp} (a : Ex H H1) (b : Ex H1 H2) : Ex H H2 := fun x o h => b x o (a x o h)
/-! data, by the heap alone -/
mutual
inductive Dq (H : Hp) : V → PyData → Prop where
  | non : Dq H .non .none
  | bl (b : Bool) : Dq H (.bl b) (.bool b)
  | int (i : Int) : Dq H (.int i) (.int i)
  | str (x : Str) : Dq H (.str x) (.str x)
  | lst {a : Addr} {xs : List V} {ds : List PyData} : H a = some (.lst xs) → DqAll H xs ds → Dq H (.ref a) (.list ds)
  | tup {a : Addr} {xs : List V} {ds : List PyData} : H a = some (.tup xs) → DqAll H xs ds → Dq H (.ref a) (.tuple ds)
inductive DqAll (H : Hp) : List V → List PyData → Prop where
  | nil : DqAll H [] []
  | cons {v : V} {vs : List V} {d : PyData} {ds : List PyData} : Dq H v d → DqAll H vs ds → DqAll H (v :: vs) (d :: ds)
end
mutual
theorem dq_mono {H H' : Hp} (e : Ex H H') : ∀ {d : PyData} {v : V}, Dq H v d → Dq H' v d
  | _, _, .non => .non
  | _, _, .bl b => .bl b
  | _, _, .int i => .int i
  | _, _, .str x => .str x
  | _, _, .lst h ha => .lst (e _ _ h) (dqAll_mono e ha)
  | _, _, .tup h ha => .tup (e _ _ h) (dqAll_mono e ha)
theorem dqAll_mono {H H' : Hp} (e : Ex H H') : ∀ {ds : List PyData} {vs : List V}, DqAll H vs ds → DqAll H' vs ds
  | _, _, .nil => .nil
  | _, _, .cons h1 h2 => .cons (dq_mono e h1) (dqAll_mono e h2)
end
mutual
theorem dq_dp {K : PySem.W.Frag} {H : Hp} : ∀ {d : PyData} {v : V}, Dq H v d → Dp K H v d
  | _, _, .non => .non
  | _, _, .bl b => .bl b
  | _, _, .int i => .int i
  | _, _, .str x => .str x
  | _, _, .lst h ha => .lst (.of h) (dqAll_dp ha)
  | _, _, .tup h ha => .tup (.of h) (dqAll_dp ha)
theorem dqAll_dp {K : PySem.W.Frag} {H : Hp} : ∀ {ds : List PyData} {vs : List V}, DqAll H vs ds → DpAll K H vs ds
  | _, _, .nil => .nil
  | _, _, .cons h1 h2 => .cons (dq_dp h1) (dqAll_dp h2)
end
/-- no tuple -/
def NT (o : HO) : Prop := ∀ xs, o ≠ .tup xs
/-! G: what is said for good; H: the heap; the addresses that are owned -/
mutual
inductive SlI (G H : Hp) : Slot → V → List Addr → Prop where
  | any {u} : SlI G H .any u []
  | v {u} : SlI G H (.v u) u []
  | val {α : Type} [DecidableEq α] [Datum α] {x : α} {u : V} : Dq G u (Datum.toD x) → SlI G H (.val x) u []
  | own {c : Cel} {p : Addr} {o : HO} {as : List Addr} : H p = some o → CeI G H c o as → SlI G H (.own c) (.ref p) (p :: as)
  | ownA {c : Cel} {q : Addr} {o : HO} {as : List Addr} : H q = some o → CeI G H c o as → SlI G H (.ownA q c) (.ref q) (q :: as)
  | say {φ : Hp → V → Prop} {u : V} : Mono φ → φ G u → SlI G H (.say φ) u []
  | otup {ss : List Slot} {vs : List V} {t : Addr} {as : List Addr} : G t = some (.tup vs) → SsI G H ss vs as → SlI G H (.otup ss) (.ref t) as
inductive CeI (G H : Hp) : Cel → HO → List Addr → Prop where
  | lst {ss : List Slot} {vs : List V} {as : List Addr} : SsI G H ss vs as → CeI G H (.lst ss) (.lst vs) as
  | ins {C dx : Addr} {fs : List (Str × Slot)} {gs : List (Str × V)} {as : List Addr} : fs.map (·.1) = gs.map (·.1) → SsI G H (fs.map (·.2)) (gs.map (·.2)) as → CeI G H (.ins C fs) (.ins C dx gs) as
  | dk {ks : List Key} {ss : List Slot} {gs : List (Key × V)} {as : List Addr} : ks = gs.map (·.1) → SsI G H ss (gs.map (·.2)) as → CeI G H (.dk ks ss) (.dK gs) as
  | fdk {ob : Obj} {ss : List Slot} {gs : List (Key × V)} {as : List Addr} : SsI G H ss (gs.map (·.2)) as → CeI G H (.fdk ob gs ss) (.frz ob (.dK gs)) as
  | say {ψ : Hp → HO → Prop} {o : HO} : MonoC ψ → ψ G o → NT o → CeI G H (.say ψ) o []
inductive SsI (G H : Hp) : List Slot → List V → List Addr → Prop where
  | nil : SsI G H [] [] []
  | cons {s : Slot} {u : V} {as : List Addr} {ss : List Slot} {vs : List V} {bs : List Addr} : SlI G H s u as → SsI G H ss vs bs → SsI G H (s :: ss) (u :: vs) (as ++ bs)
end
section
variable {G G' H H' : Hp}
mutual
theorem SlI.mono : ∀ {s : Slot} {u : V} {as : List Addr}, SlI G H s u as → Ex G G' → (∀ a ∈ as, H' a = H a) → SlI G' H' s u as
  | _, _, _, .any, _, _ => .any
  | _, _, _, .v, _, _ => .v
  | _, _, _, @SlI.val _ _ α i1 i2 x u h, e, _ => @SlI.val _ _ α i1 i2 x u (dq_mono e h)
  | _, _, _, .say m h, e, _ => .say m (m _ _ _ e h)
  | _, _, _, .otup ht h, e, f => .otup (e _ _ ht) (SsI.mono h e f)
  | _, _, _, .own hp hc, e, f => .own ((f _ List.mem_cons_self).trans hp) (CeI.mono hc e fun a ha => f a (List.mem_cons_of_mem _ ha))
  | _, _, _, .ownA hp hc, e, f => .ownA ((f _ List.mem_cons_self).trans hp) (CeI.mono hc e fun a ha => f a (List.mem_cons_of_mem _ ha))
theorem CeI.mono : ∀ {c : Cel} {o : HO} {as : List Addr}, CeI G H c o as → Ex G G' → (∀ a ∈ as, H' a = H a) → CeI G' H' c o as
  | _, _, _, .lst h, e, f => .lst (SsI.mono h e f)
  | _, _, _, .ins h1 h2, e, f => .ins h1 (SsI.mono h2 e f)
  | _, _, _, .dk h1 h2, e, f => .dk h1 (SsI.mono h2 e f)
  | _, _, _, .fdk h2, e, f => .fdk (SsI.mono h2 e f)
  | _, _, _, .say m h n, e, _ => .say m (m _ _ _ e h) n
theorem SsI.mono : ∀ {ss : List Slot} {vs : List V} {as : List Addr}, SsI G H ss vs as → Ex G G' → (∀ a ∈ as, H' a = H a) → SsI G' H' ss vs as
  | _, _, _, .nil, _, _ => .nil
  | _, _, _, .cons h1 h2, e, f => .cons (SlI.mono h1 e fun a ha => f a (List.mem_append_left _ ha)) (SsI.mono h2 e fun a ha => f a (List.mem_append_right _ ha))
end
theorem SsI.len : ∀ {ss : List Slot} {vs : List V} {as : List Addr}, SsI G H ss vs as → ss.length = vs.length
  | _, _, _, .nil => rfl
  | _, _, _, .cons _ h => congrArg Nat.succ (SsI.len h)
theorem SsI.app : ∀ {ss : List Slot} {vs : List V} {as : List Addr} {tt : List Slot} {us : List V} {bs : List Addr}, SsI G H ss vs as → SsI G H tt us bs → SsI G H (ss ++ tt) (vs ++ us) (as ++ bs)
  | _, _, _, _, _, _, .nil, h => h
  | _, _, _, _, _, _, .cons (as := as) (bs := bs) h1 h2, h => by
    rw [List.append_assoc]
    exact .cons h1 (SsI.app h2 h)
theorem SsI.split : ∀ {ss : List Slot} {vs : List V} {tt : List Slot} {us : List V} {cs : List Addr}, ss.length = vs.length → SsI G H (ss ++ tt) (vs ++ us) cs → ∃ as bs, cs = as ++ bs ∧ SsI G H ss vs as ∧ SsI G H tt us bs
  | [], [], _, _, cs, _, h => ⟨[], cs, rfl, .nil, h⟩
  | [], _ :: _, _, _, _, e, _ => nomatch e
  | _ :: _, [], _, _, _, e, _ => nomatch e
  | s :: ss, v :: vs, tt, us, _, e, .cons (as := a1) h1 h2 => by
    obtain ⟨as, bs, rfl, h3, h4⟩ := SsI.split (Nat.succ.inj e) h2
    exact ⟨a1 ++ as, bs, (List.append_assoc ..).symm, .cons h1 h3, h4⟩
inductive CsI (G H : Hp) : List (Addr × Cel) → List Addr → Prop where
  | nil : CsI G H [] []
  | gone {p : Addr} {cs : List (Addr × Cel)} {bs : List Addr} : CsI G H cs bs → CsI G H ((p, .gone) :: cs) bs
  | cons {p : Addr} {c : Cel} {o : HO} {as : List Addr} {cs : List (Addr × Cel)} {bs : List Addr} : H p = some o → CeI G H c o as → CsI G H cs bs → CsI G H ((p, c) :: cs) (p :: (as ++ bs))
theorem CsI.mono : ∀ {cs : List (Addr × Cel)} {bs : List Addr}, CsI G H cs bs → Ex G G' → (∀ a ∈ bs, H' a = H a) → CsI G' H' cs bs
  | _, _, .nil, _, _ => .nil
  | _, _, .gone h, e, f => .gone (CsI.mono h e f)
  | _, _, .cons hp hc h, e, f => .cons ((f _ List.mem_cons_self).trans hp) (hc.mono e fun a ha => f a (List.mem_cons_of_mem _ (List.mem_append_left _ ha))) (CsI.mono h e fun a ha => f a (List.mem_cons_of_mem _ (List.mem_append_right _ ha)))
theorem CsI.app : ∀ {cs ds : List (Addr × Cel)} {as bs : List Addr}, CsI G H cs as → CsI G H ds bs → CsI G H (cs ++ ds) (as ++ bs)
  | _, _, _, _, .nil, h => h
  | _, _, _, _, .gone h1, h => .gone (CsI.app h1 h)
  | _, _, _, _, .cons hp hc h1, h => by
    rw [List.cons_append, List.cons_append, List.append_assoc]
    exact .cons hp hc (CsI.app h1 h)
/-- the k-th cell, and the rest, that may be put together with another one -/
theorem CsI.at : ∀ {cs : List (Addr × Cel)} {bs : List Addr} (k : Nat) {p : Addr} {c : Cel}, CsI G H cs bs → cs[k]? = some (p, c) → c ≠ .gone →
    ∃ l o m r, bs = l ++ (p :: m) ++ r ∧ H p = some o ∧ CeI G H c o m ∧
      ∀ {G' H' : Hp}, Ex G G' → (∀ a ∈ l ++ r, H' a = H a) →
        (∀ {q : Addr} {c' : Cel} {o' : HO} {m' : List Addr}, H' q = some o' → CeI G' H' c' o' m' → CsI G' H' (cs.set k (q, c')) (l ++ (q :: m') ++ r)) ∧ ∀ q, CsI G' H' (cs.set k (q, .gone)) (l ++ r)
  | [], _, _, _, _, _, e, _ => by simp at e
  | _ :: cs, bs, 0, p, c, h, e, hg => by
    have e1 := Option.some.inj (show some _ = some (p, c) from e)
    cases h with
    | gone h => cases e1; exact absurd rfl hg
    | @cons p' c' o as _ bs hp hc h =>
      cases e1
      refine ⟨[], o, as, bs, rfl, hp, hc, fun eg f => ⟨fun hq hc' => ?_, fun q => ?_⟩⟩
      · exact .cons hq hc' (h.mono eg f)
      · exact .gone (h.mono eg f)
  | (p0, c0) :: cs, bs, k + 1, p, c, h, e, hg => by
    have e1 : cs[k]? = some (p, c) := e
    cases h with
    | gone h =>
      obtain ⟨l, o, m, r, rfl, hp, hc, f⟩ := CsI.at k h e1 hg
      exact ⟨l, o, m, r, rfl, hp, hc, fun eg g => ⟨fun hq hc' => .gone ((f eg g).1 hq hc'), fun q => .gone ((f eg g).2 q)⟩⟩
    | @cons _ _ o1 as _ bs hp1 hc1 h =>
      obtain ⟨l, o, m, r, rfl, hp, hc, f⟩ := CsI.at k h e1 hg
      refine ⟨p0 :: (as ++ l), o, m, r, ?_, hp, hc, fun {G' H'} eg g => ?_⟩
      · simp only [List.cons_append, List.append_assoc]
      · have g1 : ∀ a ∈ p0 :: as, H' a = H a := fun a ha => g a (by
          rcases List.mem_cons.mp ha with rfl | ha
          · exact List.mem_append_left _ List.mem_cons_self
          · exact List.mem_append_left _ (List.mem_cons_of_mem _ (List.mem_append_left _ ha)))
        have g2 : ∀ a ∈ l ++ r, H' a = H a := fun a ha => g a (by
          rcases List.mem_append.mp ha with ha | ha
          · exact List.mem_append_left _ (List.mem_cons_of_mem _ (List.mem_append_right _ ha))
          · exact List.mem_append_right _ ha)
        have k1 : H' p0 = some o1 := (g1 p0 List.mem_cons_self).trans hp1
        have k2 := hc1.mono eg fun a ha => g1 a (List.mem_cons_of_mem _ ha)
        refine ⟨fun {q c' o' m'} hq hc' => ?_, fun q => ?_⟩
        · have := CsI.cons k1 k2 ((f eg g2).1 hq hc')
          simpa only [List.cons_append, List.append_assoc, List.set_cons_succ] using this
        · have := CsI.cons k1 k2 ((f eg g2).2 q)
          simpa only [List.cons_append, List.append_assoc, List.set_cons_succ] using this
def SlOk (G : Hp) : Slot → Option V → Prop
  | .any, _ => True
  | .v x, o => o = some x
  | @Slot.val _ _ _ x, o => ∃ u, o = some u ∧ Dq G u (Datum.toD x)
  | .own _, _ => False
  | .ownA _ _, _ => False
  | .otup _, _ => False
  | .say φ, o => ∃ u, o = some u ∧ Mono φ ∧ φ G u
theorem SlOk.mono {s : Slot} {o : Option V} (h : SlOk G s o) (e : Ex G G') : SlOk G' s o := by
  cases s with
  | any => trivial
  | v x => exact h
  | val x => obtain ⟨u, h1, h2⟩ := h; exact ⟨u, h1, dq_mono e h2⟩
  | own c => exact h
  | ownA _ c => exact h
  | otup _ => exact h
  | say φ => obtain ⟨u, h1, m, h2⟩ := h; exact ⟨u, h1, m, m _ _ _ e h2⟩
def SgI (G : Hp) (sl : List Slot) (σ : St) : Prop := sl.length = σ.length ∧ ∀ (i : Nat) s, sl[i]? = some s → ∃ o, σ[i]? = some o ∧ SlOk G s o
theorem SgI.mono {sl : List Slot} {σ : St} (h : SgI G sl σ) (e : Ex G G') : SgI G' sl σ := ⟨h.1, fun i s hs => let ⟨o, h1, h2⟩ := h.2 i s hs; ⟨o, h1, h2.mono e⟩⟩
theorem SgI.set {sl : List Slot} {σ : St} (h : SgI G sl σ) (i : Nat) {s : Slot} {u : V} (hs : SlOk G s (some u)) : SgI G (sl.set i s) (σ.set i (some u)) := by
  refine ⟨by rw [List.length_set, List.length_set, h.1], fun j s' hj => ?_⟩
  by_cases e : i = j
  · subst e
    have hl : i < sl.length := by
      have := (List.getElem?_eq_some_iff.mp hj).1
      rwa [List.length_set] at this
    rw [List.getElem?_set_self hl] at hj
    cases hj
    exact ⟨some u, by rw [List.getElem?_set_self (h.1 ▸ hl)], hs⟩
  · rw [List.getElem?_set_ne e] at hj
    obtain ⟨o, h1, h2⟩ := h.2 j s' hj
    exact ⟨o, by rw [List.getElem?_set_ne e]; exact h1, h2⟩
end
/-- what holds ahead of a def: G what is said for good, F what is to stay -/
structure Base where
  G : Hp
  F : Hp
structure Stt : Type 1 where
  sl : List Slot
  cs : List (Addr × Cel)
structure St0 (B : Base) (S : Stt) (T : List Slot) (σ : St) (tv : List V) (H G : Hp) (as bs : List Addr) : Prop where
  tmp : SsI G H T tv as
  cel : CsI G H S.cs bs
  slo : SgI G S.sl σ
  nod : (as ++ bs).Nodup
  fre : ∀ a ∈ as ++ bs, G a = none ∧ B.F a = none
  gro : Ex B.G G
  new : ∀ a o, G a = some o → B.G a = some o ∨ B.F a = none ∨ ∃ xs, o = .tup xs
  sub : Ex G H
  frm : Ex B.F H
def Sta (B : Base) (S : Stt) (T : List Slot) (σ : St) (tv : List V) (H : Hp) : Prop := ∃ G as bs, St0 B S T σ tv H G as bs
def Slot.plain : Slot → Bool
  | .own _ => false
  | .ownA _ _ => false
  | .otup _ => false
  | _ => true
/-- something is known, and nothing is owned -/
def Slot.there : Slot → Bool
  | .own _ => false
  | .ownA _ _ => false
  | .otup _ => false
  | .any => false
  | _ => true
section
variable {B : Base} {S : Stt} {T : List Slot} {σ : St} {tv : List V} {H G : Hp} {x y : Slot} {v u : V}
theorem SlI.ok {as : List Addr} (h : SlI G H x v as) (hp : x.plain = true) : SlOk G x (some v) := by
  cases h with
  | any => trivial
  | v => rfl
  | val h => exact ⟨_, rfl, h⟩
  | own _ _ => cases hp
  | ownA _ _ => cases hp
  | otup _ _ => cases hp
  | say m h => exact ⟨_, rfl, m, h⟩
theorem SlI.nil {as : List Addr} (h : SlI G H x v as) (hp : x.plain = true) : as = [] := by
  cases h with
  | any => rfl
  | v => rfl
  | val h => rfl
  | own _ _ => cases hp
  | ownA _ _ => cases hp
  | otup _ _ => cases hp
  | say m h => rfl
theorem SlOk.sl (h : SlOk G x (some v)) : SlI G H x v [] := by
  cases x with
  | any => exact .any
  | v w => cases h; exact .v
  | val z => obtain ⟨_, e, h⟩ := h; cases e; exact .val h
  | own c => cases h
  | ownA _ c => cases h
  | otup _ => cases h
  | say φ => obtain ⟨_, e, m, h⟩ := h; cases e; exact .say m h
theorem Sta.top (h : Sta B S (x :: T) σ (v :: tv) H) : ∃ G as, SlI G H x v as ∧ Ex G H := by
  obtain ⟨G, as, bs, z⟩ := h
  cases z.tmp with
  | cons h1 h2 => exact ⟨G, _, h1, z.sub⟩
theorem Sta.drop (h : Sta B S (x :: T) σ (v :: tv) H) : Sta B S T σ tv H := by
  obtain ⟨G, as, bs, z⟩ := h
  obtain ⟨z1, z2, z3, z4, z5, z6, z7, z8, z9⟩ := z
  cases z1 with
  | @cons _ _ a1 _ _ a2 h1 h2 =>
    refine ⟨G, a2, bs, h2, z2, z3, ?_, fun a ha => z5 a ?_, z6, z7, z8, z9⟩
    · rw [List.append_assoc] at z4
      exact (List.nodup_append.mp z4).2.1
    · rw [List.append_assoc]
      exact List.mem_append_right _ ha
/-- a value that owns nothing is laid on top -/
theorem Sta.push (h : Sta B S T σ tv H) (hz : ∀ G, Ex G H → SlI G H x v []) : Sta B S (x :: T) σ (v :: tv) H := by
  obtain ⟨G, as, bs, z⟩ := h
  exact ⟨G, [] ++ as, bs, .cons (hz G z.sub) z.tmp, z.cel, z.slo, z.nod, z.fre, z.gro, z.new, z.sub, z.frm⟩
theorem Sta.get {i : Nat} {s : Slot} (h : Sta B S T σ tv H) (hs : S.sl[i]? = some s) (hn : s.there = true) : ∃ v, σ[i]? = some (some v) ∧ Sta B S (s :: T) σ (v :: tv) H := by
  obtain ⟨G, as, bs, z⟩ := h
  obtain ⟨o, h1, h2⟩ := z.slo.2 i s hs
  have : ∃ v, o = some v := by
    cases s with
    | any => cases hn
    | v w => exact ⟨w, h2⟩
    | val z => obtain ⟨u, e, _⟩ := h2; exact ⟨u, e⟩
    | own c => cases hn
    | ownA _ c => cases hn
    | otup _ => cases hn
    | say φ => obtain ⟨u, e, _⟩ := h2; exact ⟨u, e⟩
  obtain ⟨v, rfl⟩ := this
  exact ⟨v, h1, G, [] ++ as, bs, .cons h2.sl z.tmp, z.cel, z.slo, z.nod, z.fre, z.gro, z.new, z.sub, z.frm⟩
theorem Sta.set (h : Sta B S (x :: T) σ (v :: tv) H) (hp : x.plain = true) (i : Nat) : Sta B ⟨S.sl.set i x, S.cs⟩ T (σ.set i (some v)) tv H := by
  obtain ⟨G, as, bs, z⟩ := h
  obtain ⟨z1, z2, z3, z4, z5, z6, z7, z8, z9⟩ := z
  cases z1 with
  | @cons _ _ a1 _ _ a2 h1 h2 =>
    have e := h1.nil hp
    subst e
    exact ⟨G, a2, bs, h2, z2, z3.set i (h1.ok hp), z4, z5, z6, z7, z8, z9⟩
/-- an owned thing gets a name -/
theorem Sta.name {c : Cel} (h : Sta B S (.own c :: T) σ (v :: tv) H) : ∃ p, v = .ref p ∧ Sta B ⟨S.sl, S.cs ++ [(p, c)]⟩ (.v (.ref p) :: T) σ (.ref p :: tv) H := by
  obtain ⟨G, as, bs, z⟩ := h
  obtain ⟨z1, z2, z3, z4, z5, z6, z7, z8, z9⟩ := z
  cases z1 with
  | @cons _ _ a1 _ _ a2 h1 h2 =>
    cases h1 with
    | @own _ p o m hp hc =>
      have pm : (([] ++ a2) ++ (bs ++ (p :: (m ++ [])))).Perm ((p :: m) ++ a2 ++ bs) := by
        simp only [List.nil_append, List.append_nil]
        have e1 : (a2 ++ (bs ++ (p :: m))).Perm ((a2 ++ bs) ++ (p :: m)) := by rw [List.append_assoc]
        have e2 : ((a2 ++ bs) ++ (p :: m)).Perm ((p :: m) ++ (a2 ++ bs)) := List.perm_append_comm
        have e3 : ((p :: m) ++ (a2 ++ bs)).Perm ((p :: m) ++ a2 ++ bs) := by rw [List.append_assoc]
        exact e1.trans (e2.trans e3)
      exact ⟨p, rfl, G, [] ++ a2, bs ++ (p :: (m ++ [])), .cons .v h2, z2.app (.cons hp hc .nil), z3, pm.nodup_iff.mpr z4, fun a ha => z5 a (pm.mem_iff.mp ha), z6, z7, z8, z9⟩
end
/-! the weakest readings -/
section
variable (X : Cx)
structure teOf (e : Expr) (σ : St) (H : Hp) (Q : VK) : Prop where
  run : ∀ pins s, Inv X pins σ H s → wpAny (model X.prog X.w) X.A (eval e X.env) (EP X pins σ Q) X.xe s
structure ttOf (e : Expr) (σ : St) (H : Hp) (Q : Bool → Hp → Prop) : Prop where
  run : ∀ pins s, Inv X pins σ H s → wpAny (model X.prog X.w) X.A (isTrue e X.env (eval e X.env)) (TP X pins σ Q) X.xe s
structure twOf (e : Expr) (σ : St) (H : Hp) (Q : Bool → Hp → Prop) : Prop where
  run : ∀ whole pins s, Inv X pins σ H s → wpAny (model X.prog X.w) X.A (isTrue e X.env whole) (TP X pins σ Q) X.xe s
structure taOf (es : List Expr) (σ : St) (H : Hp) (Q : List V → Hp → Prop) : Prop where
  run : ∀ pos pins s, Inv X pins σ H s → wpAny (model X.prog X.w) X.A (spliced (backTo pos (starEach es X.env))) (AP X pins σ Q) X.xe s
structure tbOf (st : List Stmt) (D : Ends) (σ : St) (H : Hp) : Prop where
  run : ∀ pins s, Inv X pins σ H s → wpAny (model X.prog X.w) X.A (execs st X.env) (SP X pins D) X.xe s
end
section
variable {X : Cx}
theorem pe0 {e : Expr} : PE X e (teOf X e) := ⟨fun pins s _ _ _ I h => h.run pins s I⟩
theorem pt0 {e : Expr} : PT X e (ttOf X e) := ⟨fun pins s _ _ _ I h => h.run pins s I⟩
theorem pw0 {e : Expr} : PW X e (twOf X e) := ⟨fun wh pins s _ _ _ I h => h.run wh pins s I⟩
theorem pa0 {es : List Expr} : PA X es (taOf X es) := ⟨fun pos pins s _ _ _ I h => h.run pos pins s I⟩
theorem pb0 {st : List Stmt} : PSs X st (tbOf X st) := ⟨fun pins s _ _ _ I h => h.run pins s I⟩
theorem pe1 {e : Expr} {t : TE} (h : PE X e t) {σ : St} {H : Hp} {Q : VK} (q : t σ H Q) : teOf X e σ H Q := ⟨fun pins s I => h.run pins s σ H Q I q⟩
theorem pt1 {e : Expr} {t : TT} (h : PT X e t) {σ : St} {H : Hp} {Q : Bool → Hp → Prop} (q : t σ H Q) : ttOf X e σ H Q := ⟨fun pins s I => h.run pins s σ H Q I q⟩
theorem pw1 {e : Expr} {t : TT} (h : PW X e t) {σ : St} {H : Hp} {Q : Bool → Hp → Prop} (q : t σ H Q) : twOf X e σ H Q := ⟨fun wh pins s I => h.run wh pins s σ H Q I q⟩
theorem pa1 {es : List Expr} {t : TA} (h : PA X es t) {σ : St} {H : Hp} {Q : List V → Hp → Prop} (q : t σ H Q) : taOf X es σ H Q := ⟨fun pos pins s I => h.run pos pins s σ H Q I q⟩
theorem pb1 {st : List Stmt} {t : TS} (h : PSs X st t) {σ : St} {H : Hp} {D : Ends} (q : t D σ H) : tbOf X st D σ H := ⟨fun pins s I => h.run pins s σ H D I q⟩
end
/-! the judgements -/
abbrev FK := List Slot → List V → St → Hp → Prop
structure FE : Type 1 where
  nx : FK
  rt : V → Hp → Prop
  bk : FK := fun _ _ _ _ => False
  ct : FK := fun _ _ _ _ => False
abbrev FE.at (D : FE) (T : List Slot) (tv : List V) : Ends := ⟨D.nx T tv, D.rt, D.bk T tv, D.ct T tv⟩
section
variable (X : Cx) (B : Base)
def JE (S : Stt) (e : Expr) (S' : Stt) (x : Slot) : Prop := ∀ T tv σ H Q, Sta B S T σ tv H → (∀ v H', Sta B S' (x :: T) σ (v :: tv) H' → Q v H') → teOf X e σ H Q
def JT (S : Stt) (e : Expr) (S' : Stt) (b : Bool) : Prop := ∀ T tv σ H Q, Sta B S T σ tv H → (∀ H', Sta B S' T σ tv H' → Q b H') → ttOf X e σ H Q
def JW (S : Stt) (e : Expr) (S' : Stt) (b : Bool) : Prop := ∀ T tv σ H Q, Sta B S T σ tv H → (∀ H', Sta B S' T σ tv H' → Q b H') → twOf X e σ H Q
/-- arguments: from the left; they lie in their order -/
def JA (S : Stt) (es : List Expr) (S' : Stt) (xs : List Slot) : Prop := ∀ T tv σ H Q, Sta B S T σ tv H → (∀ vs H', vs.length = xs.length → Sta B S' (xs ++ T) σ (vs ++ tv) H' → Q vs H') → taOf X es σ H Q
def JS (S : Stt) (st : List Stmt) (D : FE) : Prop := ∀ T tv σ H, Sta B S T σ tv H → tbOf X st (D.at T tv) σ H
def FE.seq (D : FE) (rest : List Stmt) : FE := { D with nx := fun T tv σ H => tbOf X rest (D.at T tv) σ H }
end
end J
namespace J
open PySem L2
open PySem.W (Datum)
section
variable {X : Cx} {B : Base} {S S1 S2 S3 : Stt} {x y z : Slot} {a b e : Expr} {es : List Expr} {pos : Pos}
/-! names and constants -/
theorem je_var (i : Nat) {n : Str} {s : Slot} (hs : S.sl[i]? = some s) (hn : s.there = true := by rfl) (hN : X.N[i]? = some n := by rfl)
    (hv : Vis X.env.scope n := by first | exact Or.inl rfl | exact Or.inr (Or.inl rfl) | exact Or.inr (Or.inr rfl)) (hd : (n == ("__debug__" : Str)) = false := by decide) (hcd : (n == ("__classdict__" : Str)) = false := by decide) : JE X B S (.Name n pos) S s := by
  intro T tv σ H Q h q
  obtain ⟨v, h1, h2⟩ := h.get hs hn
  exact pe1 (pe_var hN hv hd hcd) ⟨v, h1, q v H h2⟩
theorem je_int {i : Int} {j : Nat} : JE X B S (.Constant (.int i) j pos) S (.val i) := fun T tv σ H Q h q => pe1 pe_int (q _ _ (h.push fun _ _ => .val (.int i)))
theorem je_bl {k : Bool} {j : Nat} : JE X B S (.Constant (.bool k) j pos) S (.val k) := fun T tv σ H Q h q => pe1 pe_bl (q _ _ (h.push fun _ _ => .val (.bl k)))
theorem jt_eq {p q : Bool} (h : JT X B S e S1 p) (k : p = q) : JT X B S e S1 q := k ▸ h
/-! two values, one answer -/
def O2 (X : Cx) (B : Base) (r : R2) (S : Stt) (x y : Slot) (S' : Stt) (z : Slot) : Prop := ∀ T tv σ v u H Q, Sta B S (y :: x :: T) σ (u :: v :: tv) H → (∀ w H', Sta B S' (z :: T) σ (w :: tv) H' → Q w H') → r v u H Q
theorem je_op {op : Operator} {r : R2} (ho : OpR X (binaryOp op) r) (ha : JE X B S a S1 x) (hb : JE X B S1 b S2 y) (hr : O2 X B r S2 x y S3 z) : JE X B S (.BinOp a op b pos) S3 z := by
  intro T tv σ H Q h q
  refine pe1 (pe_op ho pe0 pe0) (ha _ _ _ _ _ h fun v H1 h1 => hb _ _ _ _ _ h1 fun u H2 h2 => hr _ _ _ _ _ _ _ h2 q)
theorem Sta.bool {T : List Slot} {σ : St} {tv : List V} {H : Hp} {v : V} {k : Bool} (h : Sta B S (.val k :: T) σ (v :: tv) H) : v = .bl k := by
  obtain ⟨G, as, h1, _⟩ := h.top
  cases h1 with
  | val h => cases (show Dq G v (.bool k) from h); rfl
theorem Sta.int {T : List Slot} {σ : St} {tv : List V} {H : Hp} {v : V} {k : Int} (h : Sta B S (.val k :: T) σ (v :: tv) H) : v = .int k := by
  obtain ⟨G, as, h1, _⟩ := h.top
  cases h1 with
  | val h => cases (show Dq G v (.int k) from h); rfl
theorem Sta.str {T : List Slot} {σ : St} {tv : List V} {H : Hp} {v : V} {k : Str} (h : Sta B S (.val k :: T) σ (v :: tv) H) : v = .str k := by
  obtain ⟨G, as, h1, _⟩ := h.top
  cases h1 with
  | val h => cases (show Dq G v (.str k) from h); rfl
theorem Sta.exact {T : List Slot} {σ : St} {tv : List V} {H : Hp} {v w : V} (h : Sta B S (.v w :: T) σ (v :: tv) H) : v = w := by
  obtain ⟨G, as, h1, _⟩ := h.top
  cases h1 with
  | v => rfl
theorem jt_cmp {op : CmpOp} {r : R2} {k : Bool} (ho : OpR X (compareOp op) r) (ha : JE X B S a S1 x) (hb : JE X B S1 b S2 y) (hr : O2 X B r S2 x y S3 (.val k)) (hm : behindInMarks op b = false) : JT X B S (.Compare a [op] [b] pos) S3 k := by
  intro T tv σ H Q h q
  refine pt1 (pt_cmpR ho pe0 pe0 hm) (ha _ _ _ _ _ h fun v H1 h1 => hb _ _ _ _ _ h1 fun u H2 h2 => hr _ _ _ _ _ _ _ h2 fun w H3 h3 => ?_)
  have e := h3.bool
  subst e
  exact ⟨k, rfl, q _ h3.drop⟩
/-! whole numbers -/
theorem o2_i0 {g : Int → Int → V} {i j : Int} {z : Slot} (hz : ∀ G H, SlI G H z (g i j) []) : O2 X B (rI0 g) S (.val i) (.val j) S z := by
  intro T tv σ v u H Q h q
  have e1 := h.int
  have e2 := h.drop.int
  subst e1 e2
  exact ⟨i, j, rfl, rfl, q _ _ (h.drop.drop.push fun G _ => hz G H)⟩
theorem o2_i {C : Int → Int → Prop} {g : Int → Int → V} {i j : Int} {z : Slot} (hc : C i j) (hz : ∀ G H, SlI G H z (g i j) []) : O2 X B (rI C g) S (.val i) (.val j) S z := by
  intro T tv σ v u H Q h q
  have e1 := h.int
  have e2 := h.drop.int
  subst e1 e2
  exact ⟨i, j, rfl, rfl, hc, q _ _ (h.drop.drop.push fun G _ => hz G H)⟩
theorem sl_int {G H : Hp} (i : Int) : SlI G H (.val i) (.int i) [] := .val (.int i)
theorem sl_bl {G H : Hp} (k : Bool) : SlI G H (.val k) (.bl k) [] := .val (.bl k)
variable {i j : Int}
theorem je_add (ha : JE X B S a S1 (.val i)) (hb : JE X B S1 b S2 (.val j)) : JE X B S (.BinOp a .Add b pos) S2 (.val (i + j)) := je_op op_add ha hb (o2_i0 fun _ _ => sl_int _)
theorem je_sub (ha : JE X B S a S1 (.val i)) (hb : JE X B S1 b S2 (.val j)) : JE X B S (.BinOp a .Sub b pos) S2 (.val (i - j)) := je_op op_sub ha hb (o2_i0 fun _ _ => sl_int _)
theorem je_mul (ha : JE X B S a S1 (.val i)) (hb : JE X B S1 b S2 (.val j)) (hc : CMul i j) : JE X B S (.BinOp a .Mult b pos) S2 (.val (i * j)) := je_op op_mul ha hb (o2_i hc fun _ _ => sl_int _)
theorem je_div (ha : JE X B S a S1 (.val i)) (hb : JE X B S1 b S2 (.val j)) (hc : 0 < j ∧ j < 18446744073709551616) : JE X B S (.BinOp a .FloorDiv b pos) S2 (.val (i / j)) :=
  je_op op_fdivW ha hb (o2_i (wide_div (b := 64) hc.1 (by have := hc.1; have := hc.2; omega) (by decide) (by decide)) fun _ _ => sl_int _)
theorem je_mod (ha : JE X B S a S1 (.val i)) (hb : JE X B S1 b S2 (.val j)) (hc : 0 < j) : JE X B S (.BinOp a .Mod b pos) S2 (.val (i % j)) := je_op op_mod ha hb (o2_i hc fun _ _ => sl_int _)
theorem je_pow {n : Nat} (ha : JE X B S a S1 (.val i)) (hb : JE X B S1 b S2 (.val (n : Int))) (hn : n ≤ 1000000) (hc : i.natAbs < 18446744073709551616) : JE X B S (.BinOp a .Pow b pos) S2 (.val (i ^ n)) :=
  je_op op_pow ha hb (o2_i ⟨Int.natCast_nonneg _, by omega, hc⟩ fun _ _ => sl_int _)
/-! comparisons of whole numbers: as tests, as values -/
section
variable {op : CmpOp}
theorem jt_lt (ha : JE X B S a S1 (.val i)) (hb : JE X B S1 b S2 (.val j)) : JT X B S (.Compare a [.Lt] [b] pos) S2 (decide (i < j)) := jt_cmp op_lt ha hb (o2_i0 fun _ _ => sl_bl _) (nomark _)
theorem jt_gt (ha : JE X B S a S1 (.val i)) (hb : JE X B S1 b S2 (.val j)) : JT X B S (.Compare a [.Gt] [b] pos) S2 (decide (j < i)) := jt_cmp op_gt ha hb (o2_i0 fun _ _ => sl_bl _) (nomark _)
theorem jt_ge (ha : JE X B S a S1 (.val i)) (hb : JE X B S1 b S2 (.val j)) : JT X B S (.Compare a [.GtE] [b] pos) S2 (decide (j ≤ i)) := jt_cmp op_ge ha hb (o2_i0 fun _ _ => sl_bl _) (nomark _)
end
/-! and, or, not; tests of values that are truths -/
section
variable {p q : Bool} {rest : List Expr}
theorem jw_and1 (h : JT X B S a S1 p) : JW X B S (.BoolOp .And [a] pos) S1 p := fun T tv σ H Q hs k => pw1 (pw_and1 pt0) (h _ _ _ _ _ hs k)
theorem jw_or1 (h : JT X B S a S1 p) : JW X B S (.BoolOp .Or [a] pos) S1 p := fun T tv σ H Q hs k => pw1 (pw_or1 pt0) (h _ _ _ _ _ hs k)
/-- the second one is asked where the first one is true; it leaves the state (pure), or the state is one for both -/
theorem jw_and (h : JT X B S a S1 p) (h2 : p = true → JW X B S1 (.BoolOp .And (b :: rest) pos) S1 q) : JW X B S (.BoolOp .And (a :: b :: rest) pos) S1 (p && q) := by
  intro T tv σ H Q hs k
  refine pw1 (pw_and pt0 pw0) (h _ _ _ _ _ hs fun H1 h1 => ?_)
  cases p with
  | true => exact iteT (h2 rfl _ _ _ _ _ h1 fun H2 g2 => k _ g2)
  | false => exact iteF (k _ h1)
theorem jw_or (h : JT X B S a S1 p) (h2 : p = false → JW X B S1 (.BoolOp .Or (b :: rest) pos) S1 q) : JW X B S (.BoolOp .Or (a :: b :: rest) pos) S1 (p || q) := by
  intro T tv σ H Q hs k
  refine pw1 (pw_or pt0 pw0) (h _ _ _ _ _ hs fun H1 h1 => ?_)
  cases p with
  | true => exact iteT (k _ h1)
  | false => exact iteF (h2 rfl _ _ _ _ _ h1 fun H2 g2 => k _ g2)
theorem JW.t (h : JW X B S e S1 p) : JT X B S e S1 p := fun T tv σ H Q hs k => pt1 pw0.pt (h _ _ _ _ _ hs k)
end
/-! arguments -/
theorem SsI.rot {G H : Hp} {xs T : List Slot} {vs tv : List V} {s : Slot} {u : V} {as : List Addr} (hl : xs.length = vs.length) (h : SsI G H (xs ++ s :: T) (vs ++ u :: tv) as) : ∃ bs, SsI G H (s :: (xs ++ T)) (u :: (vs ++ tv)) bs ∧ bs.Perm as := by
  obtain ⟨a1, a2, rfl, h1, h2⟩ := SsI.split hl h
  cases h2 with
  | @cons _ _ b1 _ _ b2 h3 h4 =>
    refine ⟨_, .cons h3 (h1.app h4), ?_⟩
    have e1 : (b1 ++ (a1 ++ b2)).Perm ((a1 ++ b2) ++ b1) := List.perm_append_comm
    have e2 : ((a1 ++ b2) ++ b1).Perm (a1 ++ (b2 ++ b1)) := by rw [List.append_assoc]
    exact e1.trans (e2.trans (List.Perm.append_left _ List.perm_append_comm))
theorem Sta.rot {xs T : List Slot} {σ : St} {vs tv : List V} {H : Hp} {s : Slot} {u : V} (hl : xs.length = vs.length) (h : Sta B S (xs ++ s :: T) σ (vs ++ u :: tv) H) : Sta B S (s :: (xs ++ T)) σ (u :: (vs ++ tv)) H := by
  obtain ⟨G, as, bs, z1, z2, z3, z4, z5, z6, z7, z8, z9⟩ := h
  obtain ⟨cs, h1, hp⟩ := z1.rot hl
  have hp2 : (cs ++ bs).Perm (as ++ bs) := List.Perm.append_right _ hp
  exact ⟨G, cs, bs, h1, z2, z3, hp2.nodup_iff.mpr z4, fun a ha => z5 a (hp2.mem_iff.mp ha), z6, z7, z8, z9⟩
theorem ja_nil : JA X B S [] S [] := fun T tv σ H Q h q => pa1 pa_nil (q [] H rfl h)
theorem ja_cons {xs : List Slot} (h1 : JE X B S e S1 x) (h2 : JA X B S1 es S2 xs) (hs : starEach (e :: es) X.env = (false, eval e X.env) :: starEach es X.env := by rfl) : JA X B S (e :: es) S2 (x :: xs) := by
  intro T tv σ H Q h q
  exact pa1 (pa_cons pe0 pa0 hs) (h1 _ _ _ _ _ h fun v H1 g1 => h2 _ _ _ _ _ g1 fun vs H2 hl g2 => q (v :: vs) H2 (congrArg Nat.succ hl) (Sta.rot hl.symm g2))
end
end J
namespace J
open PySem L2
open PySem.W (Datum)
/-! ### the mirror's loops -/
def forM {ι α : Type} (f : ι → α → Option ι) : List α → ι → Option ι
  | [], s => some s
  | x :: xs, s => (f s x).bind (forM f xs)
/-- a turn: on, out of the loop, out of the def -/
inductive Lp (ι ρ : Type) where
  | nx (s : ι)
  | bk (s : ι)
  | rt (r : ρ)
/-- .. the loop: ended (or left by break), or the def is left -/
def forL {ι α ρ : Type} (f : ι → α → Option (Lp ι ρ)) : List α → ι → Option (Sum ι ρ)
  | [], s => some (.inl s)
  | x :: xs, s => (f s x).bind fun
    | .nx s' => forL f xs s'
    | .bk s' => some (.inl s')
    | .rt r => some (.inr r)
def whileM {ι : Type} (c : ι → Option Bool) (f : ι → Option ι) : Nat → ι → Option ι
  | 0, _ => none
  | n + 1, s => (c s).bind fun b => if b = true then (f s).bind (whileM c f n) else some s
theorem bnd {α β : Type} {m : Option α} {f : α → Option β} {r : β} {C : Prop} (h : m.bind f = some r) (k : ∀ x, m = some x → f x = some r → C) : C := by
  cases m with
  | none => cases h
  | some x => exact k x rfl h
/-! ### statements -/
section
variable {X : Cx} {B : Base} {S S1 S2 S3 : Stt} {x y z : Slot} {a b e : Expr} {es : List Expr} {pos : Pos} {D : FE} {rest : List Stmt}
theorem js_step {st : Stmt} {t : TS} (hp : PS X st t) (h : ∀ T tv σ H, Sta B S T σ tv H → t ((D.seq X rest).at T tv) σ H) : JS X B S (st :: rest) D :=
  fun T tv σ H hs => pb1 (pss_cons hp pb0) (h T tv σ H hs)
theorem js_nil (h : ∀ T tv σ H, Sta B S T σ tv H → D.nx T tv σ H) : JS X B S [] D := fun T tv σ H hs => pb1 pss_nil (h T tv σ H hs)
theorem js_end (h : JS X B S rest D) : JS X B S [] (D.seq X rest) := js_nil h
theorem js_set (i : Nat) {n : Str} {pos' : Pos} (he : JE X B S e S1 x) (k : JS X B ⟨S1.sl.set i x, S1.cs⟩ rest D) (hp : x.plain = true := by rfl) (hN : X.N.Nodup := by assumption) (hi : X.N[i]? = some n := by rfl)
    (hx : Loc X.env.scope n := by first | exact .inl rfl | exact .inr rfl) (hs : swapsWith e (some (.Name n pos')) pos.line X.env = pure false := by rfl) (hf : X.fn n = true ∨ X.env.scope.names.lookup n = some .local := by first | exact .inl rfl | exact .inr rfl) :
    JS X B S (.Assign [.Name n pos'] e pos :: rest) D :=
  js_step (ps_set hN hi hx pe0 hs hf) fun T tv σ H h => he _ _ _ _ _ h fun v H1 h1 => k _ _ _ _ (h1.set hp i)
/-- a new thing under a name -/
theorem js_new (i : Nat) {n : Str} {pos' : Pos} {c : Cel} (he : JE X B S e S1 (.own c)) (k : ∀ p, JS X B ⟨S1.sl.set i (.v (.ref p)), S1.cs ++ [(p, c)]⟩ rest D) (hN : X.N.Nodup := by assumption) (hi : X.N[i]? = some n := by rfl)
    (hx : Loc X.env.scope n := by first | exact .inl rfl | exact .inr rfl) (hs : swapsWith e (some (.Name n pos')) pos.line X.env = pure false := by rfl) (hf : X.fn n = true ∨ X.env.scope.names.lookup n = some .local := by first | exact .inl rfl | exact .inr rfl) :
    JS X B S (.Assign [.Name n pos'] e pos :: rest) D :=
  js_step (ps_set hN hi hx pe0 hs hf) fun T tv σ H h => he _ _ _ _ _ h fun v H1 h1 => by
    obtain ⟨p, rfl, h2⟩ := h1.name
    exact k p _ _ _ _ (h2.set rfl i)
theorem js_expr (he : JE X B S e S1 x) (k : JS X B S1 rest D) (hs : swapsWith e none pos.line X.env = pure false := by rfl) : JS X B S (.Expr e pos :: rest) D :=
  js_step (ps_expr pe0 hs) fun T tv σ H h => he _ _ _ _ _ h fun v H1 h1 => k _ _ _ _ h1.drop
/-- what a def hands back, and the cells that it leaves -/
def Out (B : Base) (x : Slot) (cs : List (Addr × Cel)) : V → Hp → Prop := fun v H => Sta B ⟨[], cs⟩ [x] [] [v] H
theorem Sta.only {T : List Slot} {σ : St} {tv : List V} {H : Hp} {v : V} (h : Sta B S (x :: T) σ (v :: tv) H) : Out B x S.cs v H := by
  obtain ⟨G, as, bs, z1, z2, z3, z4, z5, z6, z7, z8, z9⟩ := h
  cases z1 with
  | @cons _ _ a1 _ _ a2 h1 h2 =>
    have hl : (a1 ++ [] ++ bs).Sublist (a1 ++ a2 ++ bs) := ((List.Sublist.refl a1).append (List.nil_sublist a2)).append (List.Sublist.refl bs)
    exact ⟨G, a1 ++ [], bs, .cons h1 .nil, z2, ⟨rfl, fun i s hs => by simp at hs⟩, hl.nodup z4, fun a ha => z5 a (hl.mem ha), z6, z7, z8, z9⟩
theorem js_ret (he : JE X B S e S1 x) (k : ∀ v H', Out B x S1.cs v H' → D.rt v H') : JS X B S (.Return (some e) pos :: rest) D :=
  js_step (ps_ret pe0) fun T tv σ H h => he _ _ _ _ _ h fun v H1 h1 => k v H1 h1.only
/-- both ways go on with what follows -/
theorem js_if {c : Expr} {th el : List Stmt} {p : Bool} (hc : JT X B S c S1 p) (h1 : p = true → JS X B S1 th (D.seq X rest)) (h2 : p = false → JS X B S1 el (D.seq X rest)) : JS X B S (.If c th el pos :: rest) D :=
  js_step (ps_if pt0 pb0 pb0) fun T tv σ H h => hc _ _ _ _ _ h fun H1 g => by
    cases p with
    | true => exact iteT (h1 rfl _ _ _ _ g)
    | false => exact iteF (h2 rfl _ _ _ _ g)
/-- less is known: some slots are forgotten, the last cells dropped -/
inductive Fgt : List Slot → List Slot → Prop where
  | nil : Fgt [] []
  | keep {s : Slot} {l m : List Slot} : Fgt l m → Fgt (s :: l) (s :: m)
  | drop {s : Slot} {l m : List Slot} : Fgt l m → Fgt (s :: l) (.any :: m)
theorem Fgt.len : ∀ {l m : List Slot}, Fgt l m → l.length = m.length
  | _, _, .nil => rfl
  | _, _, .keep h => congrArg Nat.succ h.len
  | _, _, .drop h => congrArg Nat.succ h.len
theorem Fgt.at : ∀ {l m : List Slot}, Fgt l m → ∀ (i : Nat) s, m[i]? = some s → s = .any ∨ l[i]? = some s
  | _, _, .nil, i, s, h => by simp at h
  | _, _, .keep h, 0, s, e => .inr e
  | _, _, .keep h, i + 1, s, e => h.at i s e
  | _, _, .drop h, 0, s, e => .inl (Option.some.inj e).symm
  | _, _, .drop h, i + 1, s, e => h.at i s e
theorem Sta.fgt {T : List Slot} {σ : St} {tv : List V} {H : Hp} {sl : List Slot} (f : Fgt S.sl sl) (h : Sta B S T σ tv H) : Sta B ⟨sl, S.cs⟩ T σ tv H := by
  obtain ⟨G, as, bs, z1, z2, z3, z4, z5, z6, z7, z8, z9⟩ := h
  refine ⟨G, as, bs, z1, z2, ⟨f.len.symm.trans z3.1, fun i s hs => ?_⟩, z4, z5, z6, z7, z8, z9⟩
  rcases f.at i s hs with e | e
  · subst e
    have hi := (List.getElem?_eq_some_iff.mp hs).1
    have hi2 : i < σ.length := z3.1 ▸ f.len ▸ hi
    exact ⟨σ[i], List.getElem?_eq_getElem hi2, trivial⟩
  · exact z3.2 i s e
theorem CsI.take {G H : Hp} : ∀ {cs : List (Addr × Cel)} {bs : List Addr} (n : Nat), CsI G H cs bs → ∃ ds, CsI G H (cs.take n) ds ∧ ds.Sublist bs
  | _, _, 0, _ => ⟨[], .nil, List.nil_sublist _⟩
  | _, _, n + 1, .nil => ⟨[], .nil, List.nil_sublist _⟩
  | _, _, n + 1, .gone h => let ⟨ds, h1, h2⟩ := CsI.take n h; ⟨ds, .gone h1, h2⟩
  | _, _, n + 1, .cons hp hc h => let ⟨ds, h1, h2⟩ := CsI.take n h; ⟨_, .cons hp hc h1, ((List.Sublist.refl _).append h2).cons_cons _⟩
theorem Sta.take {T : List Slot} {σ : St} {tv : List V} {H : Hp} (n : Nat) (h : Sta B S T σ tv H) : Sta B ⟨S.sl, S.cs.take n⟩ T σ tv H := by
  obtain ⟨G, as, bs, z1, z2, z3, z4, z5, z6, z7, z8, z9⟩ := h
  obtain ⟨ds, h1, h2⟩ := z2.take n
  have hl : (as ++ ds).Sublist (as ++ bs) := (List.Sublist.refl as).append h2
  exact ⟨G, as, ds, z1, h1, z3, hl.nodup z4, fun a ha => z5 a (hl.mem ha), z6, z7, z8, z9⟩
theorem Out.take {cs : List (Addr × Cel)} {v : V} {H : Hp} (n : Nat) (h : Out B x cs v H) : Out B x (cs.take n) v H := Sta.take (S := ⟨[], cs⟩) n h
/-! ### while -/
/-! ### for -/
structure tiOf (X : Cx) (tg iter : Expr) (σ : St) (H : Hp) (R : It → Hp → Prop) : Prop where
  run : ∀ pins s, Inv X pins σ H s → wpAny (model X.prog X.w) X.A (eval iter X.env) (fun v s1 => wpAny (model X.prog X.w) X.A (pyIter v) (PIE X pins σ tg R) X.xe s1) X.xe s
theorem pi0 {tg iter : Expr} : PI X tg iter (tiOf X tg iter) := ⟨fun pins s _ _ _ I h => h.run pins s I⟩
theorem pi1 {tg iter : Expr} {t : TI} (h : PI X tg iter t) {σ : St} {H : Hp} {R : It → Hp → Prop} (q : t σ H R) : tiOf X tg iter σ H R := ⟨fun pins s I => h.run pins s σ H R I q⟩
structure tgOf (X : Cx) (tg : Expr) (v : V) (σ : St) (H : Hp) (Q : St → Hp → Prop) : Prop where
  run : ∀ pins s u, Inv X pins σ H s → RelV v u → wpAny (model X.prog X.w) X.A (assign tg X.env u) (fun _ s' => ∃ σ' H', Inv X pins σ' H' s' ∧ Q σ' H') X.xe s
theorem pg0 {tg : Expr} : PG X tg (tgOf X tg) := ⟨fun pins s _ _ _ u _ I r h => h.run pins s u I r⟩
theorem pg1 {tg : Expr} {t : TG} (h : PG X tg t) {v : V} {σ : St} {H : Hp} {Q : St → Hp → Prop} (q : t v σ H Q) : tgOf X tg v σ H Q := ⟨fun pins s u I r => h.run pins s σ H v u Q I r q⟩
theorem wipe_get (σ : St) : ∀ (vs : List Nat) (j : Nat), (wipe σ vs)[j]? = if j ∈ vs then (σ[j]?).map (fun _ => none) else σ[j]?
  | [], j => by rw [if_neg (by simp)]; rfl
  | v :: vs, j => by
    have ih := wipe_get σ vs j
    show ((wipe σ vs).set v none)[j]? = _
    by_cases e : v = j
    · subst e
      rw [if_pos List.mem_cons_self]
      by_cases hl : v < σ.length
      · rw [List.getElem?_set_self (by rw [wipe_length]; exact hl), List.getElem?_eq_getElem hl]; rfl
      · rw [List.getElem?_eq_none (by rw [List.length_set, wipe_length]; omega), List.getElem?_eq_none (by omega)]; rfl
    · rw [List.getElem?_set_ne e, ih]
      by_cases h : j ∈ vs
      · rw [if_pos h, if_pos (List.mem_cons_of_mem _ h)]
      · rw [if_neg h, if_neg (by intro h2; rcases List.mem_cons.mp h2 with h3 | h3; exact e h3.symm; exact h h3)]
theorem wipe_set {σ : St} {vs : List Nat} {i : Nat} {o : Option V} (h : i ∈ vs) : wipe (σ.set i o) vs = wipe σ vs := by
  apply List.ext_getElem?
  intro j
  rw [wipe_get, wipe_get]
  by_cases hj : j ∈ vs
  · rw [if_pos hj, if_pos hj, List.getElem?_set]
    by_cases e : i = j
    · subst e
      rw [if_pos rfl]
      by_cases hl : i < σ.length
      · rw [if_pos hl, List.getElem?_eq_getElem hl]; rfl
      · rw [if_neg hl, List.getElem?_eq_none (by omega)]
    · rw [if_neg e]
  · rw [if_neg hj, if_neg hj, List.getElem?_set_ne (fun e : i = j => hj (e ▸ h))]
theorem wipe_wipe {σ : St} {vs : List Nat} : wipe (wipe σ vs) vs = wipe σ vs := by
  apply List.ext_getElem?
  intro j
  rw [wipe_get, wipe_get]
  by_cases hj : j ∈ vs
  · rw [if_pos hj, if_pos hj]
    cases σ[j]? <;> rfl
  · rw [if_neg hj]
/-- no slots but ws have changed -/
def Chg (ws : List Nat) (σ σ' : St) : Prop := ∀ vs : List Nat, (∀ i ∈ ws, i ∈ vs) → wipe σ' vs = wipe σ vs
theorem Chg.refl (ws : List Nat) (σ : St) : Chg ws σ σ := fun _ _ => rfl
theorem Chg.app {ws ws' : List Nat} {σ σ1 σ2 : St} (a : Chg ws σ σ1) (b : Chg ws' σ1 σ2) : Chg (ws ++ ws') σ σ2 := fun vs h => (b vs fun i hi => h i (List.mem_append_right _ hi)).trans (a vs fun i hi => h i (List.mem_append_left _ hi))
/-- a target takes the topmost value; ws: the slots that it sets -/
def JG (X : Cx) (B : Base) (S : Stt) (tg : Expr) (x : Slot) (S' : Stt) (ws : List Nat) : Prop := ∀ T tv σ v H Q, Sta B S (x :: T) σ (v :: tv) H → (∀ σ' H', Chg ws σ σ' → Sta B S' T σ' tv H' → Q σ' H') → tgOf X tg v σ H Q
theorem jg_name (i : Nat) {n : Str} (hp : x.plain = true := by rfl) (hN : X.N.Nodup := by assumption) (hi : X.N[i]? = some n := by rfl) (hx : Loc X.env.scope n := by first | exact .inl rfl | exact .inr rfl) (hf : X.fn n = true ∨ X.env.scope.names.lookup n = some .local := by first | exact .inl rfl | exact .inr rfl) :
    JG X B S (.Name n pos) x ⟨S.sl.set i x, S.cs⟩ [i] := fun T tv σ v H Q h q => pg1 (pg_name hN hi hx hf) (q _ _ (fun vs hv => wipe_set (hv i List.mem_cons_self)) (h.set hp i))
/-- what a loop walks: n turns, the items; zs are held meanwhile; ok: the states that let it be -/
structure Wk (X : Cx) (B : Base) (zs : List Slot) (zv : List V) (its : List Slot) (ok : Stt → Prop) (J : It) : Prop where
  go : ∀ S T σ tv H (i : Nat) x, ok S → its[i]? = some x → Sta B S (zs ++ T) σ (zv ++ tv) H → J.go i H ∧ ∀ v H', J.yld i H v H' → Sta B S (x :: (zs ++ T)) σ (v :: (zv ++ tv)) H'
  stop : ∀ S T σ tv H, ok S → Sta B S (zs ++ T) σ (zv ++ tv) H → J.stop its.length H
def JI (X : Cx) (B : Base) (S : Stt) (tg iter : Expr) (S' : Stt) (zs its : List Slot) (ok : Stt → Prop) : Prop := ∀ T tv σ H R, Sta B S T σ tv H → (∀ J zv H', zv.length = zs.length → Sta B S' (zs ++ T) σ (zv ++ tv) H' → Wk X B zs zv its ok J → R J H') → tiOf X tg iter σ H R
theorem Sta.drops : ∀ {zs T : List Slot} {σ : St} {zv tv : List V} {H : Hp}, zv.length = zs.length → Sta B S (zs ++ T) σ (zv ++ tv) H → Sta B S T σ tv H
  | [], _, _, [], _, _, _, h => h
  | _ :: zs, _, _, _ :: zv, _, _, e, h => Sta.drops (Nat.succ.inj e) h.drop
  | [], _, _, _ :: _, _, _, e, _ => nomatch e
  | _ :: _, _, _, [], _, _, e, _ => nomatch e
end
end J
namespace J
open PySem L2
open PySem.W (Datum)
/-! ### new things -/
section
variable {G H : Hp}
mutual
theorem SlI.def : ∀ {s : Slot} {u : V} {as : List Addr}, SlI G H s u as → ∀ a ∈ as, ∃ o, H a = some o
  | _, _, _, .any, _, h => nomatch h
  | _, _, _, .v, _, h => nomatch h
  | _, _, _, @SlI.val _ _ _ _ _ _ _ _, _, h => nomatch h
  | _, _, _, .own hp hc, a, h => (List.mem_cons.mp h).elim (fun e => ⟨_, e ▸ hp⟩) fun h => CeI.def hc a h
  | _, _, _, .ownA hp hc, a, h => (List.mem_cons.mp h).elim (fun e => ⟨_, e ▸ hp⟩) fun h => CeI.def hc a h
  | _, _, _, .otup _ hs, a, h => SsI.def hs a h
theorem CeI.def : ∀ {c : Cel} {o : HO} {as : List Addr}, CeI G H c o as → ∀ a ∈ as, ∃ o, H a = some o
  | _, _, _, .lst h, a, ha => SsI.def h a ha
  | _, _, _, .ins _ h, a, ha => SsI.def h a ha
  | _, _, _, .dk _ h, a, ha => SsI.def h a ha
  | _, _, _, .fdk h, a, ha => SsI.def h a ha
theorem SsI.def : ∀ {ss : List Slot} {vs : List V} {as : List Addr}, SsI G H ss vs as → ∀ a ∈ as, ∃ o, H a = some o
  | _, _, _, .nil, _, h => nomatch h
  | _, _, _, .cons h1 h2, a, ha => (List.mem_append.mp ha).elim (fun h => SlI.def h1 a h) fun h => SsI.def h2 a h
end
theorem CsI.def : ∀ {cs : List (Addr × Cel)} {as : List Addr}, CsI G H cs as → ∀ a ∈ as, ∃ o, H a = some o
  | _, _, .nil, _, h => nomatch h
  | _, _, .gone h, a, ha => CsI.def h a ha
  | _, _, .cons hp hc h, a, ha => (List.mem_cons.mp ha).elim (fun e => ⟨_, e ▸ hp⟩) fun ha => (List.mem_append.mp ha).elim (fun h => hc.def a h) fun h' => CsI.def h a h'
theorem CeI.ntO {c : Cel} {o : HO} {as : List Addr} (h : CeI G H c o as) : NT o := by
  cases h with
  | say _ _ n => exact n
  | lst _ => exact fun _ z => nomatch z
  | ins _ _ => exact fun _ z => nomatch z
  | dk _ _ => exact fun _ z => nomatch z
  | fdk _ => exact fun _ z => nomatch z
mutual
theorem SlI.nt : ∀ {s : Slot} {u : V} {as : List Addr}, SlI G H s u as → ∀ a ∈ as, ∃ o, H a = some o ∧ NT o
  | _, _, _, .any, _, h => nomatch h
  | _, _, _, .v, _, h => nomatch h
  | _, _, _, @SlI.val _ _ _ _ _ _ _ _, _, h => nomatch h
  | _, _, _, .own hp hc, a, h => (List.mem_cons.mp h).elim (fun e => ⟨_, e ▸ hp, CeI.ntO hc⟩) fun h => CeI.nt hc a h
  | _, _, _, .ownA hp hc, a, h => (List.mem_cons.mp h).elim (fun e => ⟨_, e ▸ hp, CeI.ntO hc⟩) fun h => CeI.nt hc a h
  | _, _, _, .otup _ hs, a, h => SsI.nt hs a h
theorem CeI.nt : ∀ {c : Cel} {o : HO} {as : List Addr}, CeI G H c o as → ∀ a ∈ as, ∃ o, H a = some o ∧ NT o
  | _, _, _, .lst h, a, ha => SsI.nt h a ha
  | _, _, _, .ins _ h, a, ha => SsI.nt h a ha
  | _, _, _, .dk _ h, a, ha => SsI.nt h a ha
  | _, _, _, .fdk h, a, ha => SsI.nt h a ha
theorem SsI.nt : ∀ {ss : List Slot} {vs : List V} {as : List Addr}, SsI G H ss vs as → ∀ a ∈ as, ∃ o, H a = some o ∧ NT o
  | _, _, _, .nil, _, h => nomatch h
  | _, _, _, .cons h1 h2, a, ha => (List.mem_append.mp ha).elim (fun h => SlI.nt h1 a h) fun h => SsI.nt h2 a h
end
theorem CsI.nt : ∀ {cs : List (Addr × Cel)} {as : List Addr}, CsI G H cs as → ∀ a ∈ as, ∃ o, H a = some o ∧ NT o
  | _, _, .nil, _, h => nomatch h
  | _, _, .gone h, a, ha => CsI.nt h a ha
  | _, _, .cons hp hc h, a, ha => (List.mem_cons.mp ha).elim (fun e => ⟨_, e ▸ hp, hc.ntO⟩) fun ha => (List.mem_append.mp ha).elim (fun h => hc.nt a h) fun h' => CsI.nt h a h'
theorem SsI.one {s : Slot} {u : V} {as : List Addr} (h : SlI G H s u as) : SsI G H [s] [u] as := by
  have := SsI.cons h .nil
  rwa [List.append_nil] at this
theorem SsI.plain : ∀ {ss : List Slot} {vs : List V} {as : List Addr}, SsI G H ss vs as → (∀ s ∈ ss, s.plain = true) → as = []
  | _, _, _, .nil, _ => rfl
  | _, _, _, .cons h1 h2, h => by rw [h1.nil (h _ List.mem_cons_self), SsI.plain h2 fun s hs => h s (List.mem_cons_of_mem _ hs)]; rfl
theorem SsI.cons_inv {s : Slot} {u : V} {ss : List Slot} {vs : List V} {as : List Addr} (h : SsI G H (s :: ss) (u :: vs) as) : ∃ a1 a2, as = a1 ++ a2 ∧ SlI G H s u a1 ∧ SsI G H ss vs a2 := by
  cases h with
  | @cons _ _ a1 _ _ a2 h1 h2 => exact ⟨a1, a2, rfl, h1, h2⟩
theorem SsI.cons_nil {s : Slot} {u : V} {ss : List Slot} {vs : List V} (h : SsI G H (s :: ss) (u :: vs) []) : SlI G H s u [] ∧ SsI G H ss vs [] := by
  obtain ⟨a1, a2, e, h1, h2⟩ := h.cons_inv
  obtain ⟨rfl, rfl⟩ := List.append_eq_nil_iff.mp e.symm
  exact ⟨h1, h2⟩
theorem SsI.get : ∀ {ss : List Slot} {vs : List V} (i : Nat) {s : Slot}, SsI G H ss vs [] → ss[i]? = some s → ∃ u, vs[i]? = some u ∧ SlI G H s u []
  | [], _, _, _, _, h => by simp at h
  | _ :: _, [], _, _, h, _ => by cases h
  | _ :: _, v :: _, 0, s, h, e => by
    have e1 := Option.some.inj (show some _ = some s from e)
    subst e1
    exact ⟨v, rfl, h.cons_nil.1⟩
  | _ :: ss, v :: vs, i + 1, s, h, e => SsI.get (ss := ss) (vs := vs) i h.cons_nil.2 (show ss[i]? = some s from e)
theorem SsI.of_get : ∀ {ss : List Slot} {vs : List V}, ss.length = vs.length → (∀ (i : Nat) s u, ss[i]? = some s → vs[i]? = some u → SlI G H s u []) → SsI G H ss vs []
  | [], [], _, _ => .nil
  | [], _ :: _, e, _ => nomatch e
  | _ :: _, [], e, _ => nomatch e
  | s :: ss, v :: vs, e, h => .cons (as := []) (h 0 s v rfl rfl) (SsI.of_get (Nat.succ.inj e) fun i s u h1 h2 => h (i + 1) s u h1 h2)
theorem dqAll_ss {α : Type} [DecidableEq α] [Datum α] : ∀ {xs : List α} {vs : List V}, DqAll G vs (xs.map Datum.toD) → SsI G H (xs.map Slot.val) vs []
  | [], _, h => by cases h; exact .nil
  | x :: xs, _, h => by
    cases h with
    | cons h1 h2 => exact .cons (as := []) (.val h1) (dqAll_ss h2)
end
section
variable {B : Base} {S : Stt} {T : List Slot} {σ : St} {tv : List V} {H G : Hp} {as bs : List Addr} {x : Slot} {v : V}
theorem St0.sta (z : St0 B S T σ tv H G as bs) : Sta B S T σ tv H := ⟨G, as, bs, z⟩
theorem St0.pop (z : St0 B S (x :: T) σ (v :: tv) H G as bs) : ∃ a1 a2, as = a1 ++ a2 ∧ SlI G H x v a1 ∧ St0 B S T σ tv H G a2 bs := by
  obtain ⟨z1, z2, z3, z4, z5, z6, z7, z8, z9⟩ := z
  cases z1 with
  | @cons _ _ a1 _ _ a2 h1 h2 =>
    refine ⟨a1, a2, rfl, h1, h2, z2, z3, ?_, fun a ha => z5 a ?_, z6, z7, z8, z9⟩
    · rw [List.append_assoc] at z4
      exact (List.nodup_append.mp z4).2.1
    · rw [List.append_assoc]
      exact List.mem_append_right _ ha
theorem St0.fresh (z : St0 B S T σ tv H G as bs) {p : Addr} (hp : H p = none) : ∀ a ∈ as ++ bs, a ≠ p := fun a ha e => by
  subst e
  rcases List.mem_append.mp ha with h | h
  · obtain ⟨o, e⟩ := z.tmp.def a h; rw [hp] at e; cases e
  · obtain ⟨o, e⟩ := z.cel.def a h; rw [hp] at e; cases e
theorem ex_none {H H' : Hp} (e : Ex H H') {p : Addr} (h : H' p = none) : H p = none := by
  cases q : H p with
  | none => rfl
  | some o => rw [e p o q] at h; cases h
theorem ex_upd {H H' : Hp} (e : Ex H H') {p : Addr} {o : HO} (h : H p = none) : Ex H (upd H' p o) := fun a u ha => by rw [upd_ne (ne_of_none ha h)]; exact e a u ha
/-- the heap has one more thing, that nobody owns yet -/
theorem St0.grown (z : St0 B S T σ tv H G as bs) {p : Addr} {o : HO} (hp : H p = none) : St0 B S T σ tv (upd H p o) G as bs :=
  ⟨z.tmp.mono (Ex.refl G) fun a ha => upd_ne (z.fresh hp a (List.mem_append_left _ ha)), z.cel.mono (Ex.refl G) fun a ha => upd_ne (z.fresh hp a (List.mem_append_right _ ha)), z.slo, z.nod, z.fre, z.gro, z.new, ex_upd z.sub (ex_none z.sub hp), ex_upd z.frm (ex_none z.frm hp)⟩
/-- a new thing, owned -/
theorem St0.newO (z : St0 B S T σ tv H G as bs) {p : Addr} {o : HO} {c : Cel} (hp : H p = none) (hc : CeI G (upd H p o) c o []) : Sta B S (.own c :: T) σ (.ref p :: tv) (upd H p o) := by
  obtain ⟨z1, z2, z3, z4, z5, z6, z7, z8, z9⟩ := z.grown (o := o) hp
  refine ⟨G, (p :: []) ++ as, bs, .cons (.own upd_same hc) z1, z2, z3, List.nodup_cons.mpr ⟨fun h => z.fresh hp p h rfl, z4⟩, fun a ha => ?_, z6, z7, z8, z9⟩
  rcases List.mem_cons.mp ha with e | ha
  · subst e
    exact ⟨ex_none z.sub hp, ex_none z.frm hp⟩
  · exact z5 a ha
/-- a new thing, for good -/
theorem St0.newG (z : St0 B S T σ tv H G as bs) {p : Addr} {o : HO} (hp : H p = none) (hx : SlI (upd G p o) (upd H p o) x (.ref p) []) : Sta B S (x :: T) σ (.ref p :: tv) (upd H p o) := by
  have hg : G p = none := ex_none z.sub hp
  have eg : Ex G (upd G p o) := ex_upd (Ex.refl G) hg
  refine ⟨upd G p o, [] ++ as, bs, .cons hx (z.tmp.mono eg fun a ha => upd_ne (z.fresh hp a (List.mem_append_left _ ha))), z.cel.mono eg fun a ha => upd_ne (z.fresh hp a (List.mem_append_right _ ha)), z.slo.mono eg, z.nod, fun a ha => ?_, z.gro.trans eg, fun a u ha => ?_, fun a u ha => ?_, ex_upd z.frm (ex_none z.frm hp)⟩
  · rw [upd_ne (z.fresh hp a ha)]
    exact z.fre a ha
  · by_cases e : a = p
    · subst e
      exact .inr (.inl (ex_none z.frm hp))
    · rw [upd_ne e] at ha
      exact z.new a u ha
  · by_cases e : a = p
    · subst e
      rw [upd_same] at ha ⊢
      exact ha
    · rw [upd_ne e] at ha ⊢
      exact z.sub a u ha
end
/-! ### what is owned, for good -/
section
mutual
inductive FzS : Slot → PyData → Prop where
  | val {α : Type} [DecidableEq α] [Datum α] {x : α} : FzS (.val x) (Datum.toD x)
  | non : FzS (.v .non) .none
  | own {c : Cel} {d : PyData} : FzC c d → FzS (.own c) d
inductive FzC : Cel → PyData → Prop where
  | lst {ss : List Slot} {ds : List PyData} : FzA ss ds → FzC (.lst ss) (.list ds)
inductive FzA : List Slot → List PyData → Prop where
  | nil : FzA [] []
  | cons {s : Slot} {d : PyData} {ss : List Slot} {ds : List PyData} : FzS s d → FzA ss ds → FzA (s :: ss) (d :: ds)
end
theorem fz_map {α : Type} [DecidableEq α] [Datum α] : ∀ xs : List α, FzA (xs.map Slot.val) (xs.map Datum.toD)
  | [] => .nil
  | _ :: xs => .cons .val (fz_map xs)
theorem fz_val {α : Type} [DecidableEq α] [Datum α] (xs : List α) : FzC (.lst (xs.map Slot.val)) (Datum.toD xs) := .lst (fz_map xs)
variable {G G' H : Hp}
mutual
theorem FzS.dq : ∀ {s : Slot} {d : PyData} {u : V} {as : List Addr}, FzS s d → SlI G H s u as → Ex G G' → (∀ a ∈ as, G' a = H a) → Dq G' u d
  | _, _, _, _, @FzS.val α i1 i2 x, h, e, _ => by cases h with | val h => exact dq_mono e h
  | _, _, _, _, .non, .v, _, _ => .non
  | _, _, _, _, .own h, .own hp hc, e, f => FzC.dq h hc ((f _ List.mem_cons_self).trans hp) e fun a ha => f a (List.mem_cons_of_mem _ ha)
theorem FzC.dq : ∀ {c : Cel} {d : PyData} {p : Addr} {o : HO} {as : List Addr}, FzC c d → CeI G H c o as → G' p = some o → Ex G G' → (∀ a ∈ as, G' a = H a) → Dq G' (.ref p) d
  | _, _, _, _, _, .lst h, .lst hs, hp, e, f => .lst hp (FzA.dq h hs e f)
theorem FzA.dq : ∀ {ss : List Slot} {ds : List PyData} {vs : List V} {as : List Addr}, FzA ss ds → SsI G H ss vs as → Ex G G' → (∀ a ∈ as, G' a = H a) → DqAll G' vs ds
  | _, _, _, _, .nil, .nil, _, _ => .nil
  | _, _, _, _, .cons h1 h2, .cons s1 s2, e, f => .cons (FzS.dq h1 s1 e fun a ha => f a (List.mem_append_left _ ha)) (FzA.dq h2 s2 e fun a ha => f a (List.mem_append_right _ ha))
end
end
section
variable {B : Base} {S : Stt} {T : List Slot} {σ : St} {tv : List V} {H G : Hp} {as bs : List Addr} {x : Slot} {v : V}
/-- the addresses fs are said for good -/
theorem St0.froz (z : St0 B S T σ tv H G as bs) (fs : List Addr) (hf : ∀ a ∈ fs, G a = none ∧ B.F a = none ∧ ∃ o, H a = some o) (hn : ∀ a ∈ as ++ bs, a ∉ fs) : ∃ G', Ex G G' ∧ (∀ a ∈ fs, G' a = H a) ∧ St0 B S T σ tv H G' as bs := by
  refine ⟨fun a => if a ∈ fs then H a else G a, fun a o ha => ?_, fun a ha => if_pos ha, ?_⟩
  · have : a ∉ fs := fun h => by rw [(hf a h).1] at ha; cases ha
    show (if a ∈ fs then H a else G a) = some o
    rw [if_neg this]; exact ha
  · have eg : Ex G (fun a => if a ∈ fs then H a else G a) := fun a o ha => by
      have : a ∉ fs := fun h => by rw [(hf a h).1] at ha; cases ha
      show (if a ∈ fs then H a else G a) = some o
      rw [if_neg this]; exact ha
    refine ⟨z.tmp.mono eg fun _ _ => rfl, z.cel.mono eg fun _ _ => rfl, z.slo.mono eg, z.nod, fun a ha => ⟨?_, (z.fre a ha).2⟩, z.gro.trans eg, fun a o ha => ?_, fun a o ha => ?_, z.frm⟩
    · show (if a ∈ fs then H a else G a) = none
      rw [if_neg (hn a ha)]; exact (z.fre a ha).1
    · by_cases h : a ∈ fs
      · exact .inr (.inl (hf a h).2.1)
      · have ha' : (if a ∈ fs then H a else G a) = some o := ha
        rw [if_neg h] at ha'; exact z.new a o ha'
    · have ha' : (if a ∈ fs then H a else G a) = some o := ha
      by_cases h : a ∈ fs
      · rw [if_pos h] at ha'; exact ha'
      · rw [if_neg h] at ha'; exact z.sub a o ha'
/-- a temporary thing that is data, for good -/
theorem Sta.frz {d : PyData} (f : FzS x d) (h : Sta B S (x :: T) σ (v :: tv) H) {y : Slot} (hy : ∀ G, Dq G v d → SlI G H y v []) : Sta B S (y :: T) σ (v :: tv) H := by
  obtain ⟨G, as, bs, z⟩ := h
  obtain ⟨a1, a2, rfl, h1, z'⟩ := z.pop
  obtain ⟨G', e, g, z2⟩ := z'.froz a1 (fun a ha => ⟨(z.fre a (by simp [ha])).1, (z.fre a (by simp [ha])).2, h1.def a ha⟩) (fun a ha hb => by
    have nd := z.nod
    rw [List.append_assoc] at nd
    exact (List.nodup_append.mp nd).2.2 a hb a ha rfl)
  exact ⟨G', [] ++ a2, bs, .cons (hy G' (f.dq h1 e g)) z2.tmp, z2.cel, z2.slo, z2.nod, z2.fre, z2.gro, z2.new, z2.sub, z2.frm⟩
end
section
variable {X : Cx} {B : Base} {S S1 S2 S3 : Stt} {x y z : Slot} {a b e : Expr} {es : List Expr} {pos : Pos} {D : FE} {rest : List Stmt}
theorem je_frz {α : Type} [DecidableEq α] [Datum α] {t : α} (h : JE X B S e S1 x) (f : FzS x (Datum.toD t)) : JE X B S e S1 (.val t) := fun T tv σ H Q hs q => h _ _ _ _ _ hs fun v H' g => q v H' (g.frz f fun G d => .val d)
theorem je_frL {α : Type} [DecidableEq α] [Datum α] {xs : List α} (h : JE X B S e S1 (.own (.lst (xs.map Slot.val)))) : JE X B S e S1 (.val xs) := je_frz h (.own (fz_val xs))
/-! ### displays -/
def SlD (x : Slot) (d : PyData) : Prop := ∀ {G H u as}, SlI G H x u as → Dq G u d
inductive SlDs : List Slot → List PyData → Prop where
  | nil : SlDs [] []
  | cons {s : Slot} {d : PyData} {ss : List Slot} {ds : List PyData} : SlD s d → SlDs ss ds → SlDs (s :: ss) (d :: ds)
theorem SlDs.all : ∀ {ss : List Slot} {ds : List PyData} {G H : Hp} {vs : List V} {as : List Addr}, SlDs ss ds → SsI G H ss vs as → DqAll G vs ds
  | _, _, _, _, _, _, .nil, .nil => .nil
  | _, _, _, _, _, _, .cons h1 h2, .cons s1 s2 => .cons (h1 s1) (h2.all s2)
theorem St0.split {B : Base} {S : Stt} {xs T : List Slot} {σ : St} {vs tv : List V} {H G : Hp} {as bs : List Addr} (z : St0 B S (xs ++ T) σ (vs ++ tv) H G as bs) (hl : xs.length = vs.length) : ∃ a1 a2, as = a1 ++ a2 ∧ SsI G H xs vs a1 ∧ St0 B S T σ tv H G a2 bs := by
  obtain ⟨z1, z2, z3, z4, z5, z6, z7, z8, z9⟩ := z
  obtain ⟨a1, a2, rfl, h1, h2⟩ := SsI.split hl z1
  refine ⟨a1, a2, rfl, h1, h2, z2, z3, ?_, fun a ha => z5 a ?_, z6, z7, z8, z9⟩
  · rw [List.append_assoc] at z4
    exact (List.nodup_append.mp z4).2.1
  · rw [List.append_assoc]
    exact List.mem_append_right _ ha
/-- a written list -/
theorem je_lst {xs : List Slot} (ha : JA X B S es S1 xs) (hl : xs.length ≤ 1000) : JE X B S (.List es pos) S1 (.own (.lst xs)) := fun T tv σ H Q hs q =>
  pe1 (pe_lst pa0) (ha _ _ _ _ _ hs fun vs H1 he h1 => ⟨Nat.le_trans (Nat.le_of_eq he) (Nat.le_trans hl (by decide)), fun p hp => by
    obtain ⟨G, as, bs, z⟩ := h1
    obtain ⟨z1, z2, z3, z4, z5, z6, z7, z8, z9⟩ := z.grown (o := .lst vs) hp
    obtain ⟨a1, a2, rfl, g1, g2⟩ := SsI.split he.symm z1
    refine q _ _ ⟨G, (p :: a1) ++ a2, bs, .cons (.own upd_same (.lst g1)) g2, z2, z3, List.nodup_cons.mpr ⟨fun h => z.fresh hp p h rfl, z4⟩, fun a ha => ?_, z6, z7, z8, z9⟩
    rcases List.mem_cons.mp ha with e | ha
    · subst e
      exact ⟨ex_none z.sub hp, ex_none z.frm hp⟩
    · exact z5 a ha⟩)
end
end J
namespace J
universe u w
open PySem L2
open PySem.W (Datum)
/-! ### the mirror's lists -/
def gx {α : Type u} (xs : List α) (i : Int) : Option α := if 0 ≤ i then xs[i.toNat]? else if -(xs.length : Int) ≤ i then xs[(i + xs.length).toNat]? else none
/-- the place that an index means -/
def ixp (n : Nat) (i : Int) : Option Nat := if 0 ≤ i then (if i < n then some i.toNat else none) else if -(n : Int) ≤ i then some (i + n).toNat else none
def sx (n d : Nat) : Option Int → Nat
  | none => d
  | some v => if v < 0 then (v + (n : Int)).toNat else min v.toNat n
def slc {α : Type u} (xs : List α) (lo hi : Option Int) : List α := (xs.drop (sx xs.length 0 lo)).take (sx xs.length xs.length hi - sx xs.length 0 lo)
def psh {α : Type u} (xs : List α) (x : α) : Option (List α) := if xs.length < 16777216 then some (xs ++ [x]) else none
def stx {α : Type u} (xs : List α) (i : Int) (x : α) : Option (List α) := (ixp xs.length i).bind fun j => some (xs.set j x)
theorem sx_eq (n d : Nat) (o : Option Int) : sx n d o = HT.sIx n d o := by cases o <;> rfl
theorem atI_gx {α : Type} (xs : List α) (i : Int) : atI xs i = gx xs i := by
  unfold atI ixN gx
  by_cases h : 0 ≤ i
  · rw [if_pos h, if_pos h]
    by_cases h2 : i < xs.length
    · rw [if_pos h2]; rfl
    · rw [if_neg h2, List.getElem?_eq_none (by omega)]; rfl
  · rw [if_neg h, if_neg h]
    by_cases h2 : -(xs.length : Int) ≤ i
    · rw [if_pos h2, if_pos h2]; rfl
    · rw [if_neg h2, if_neg h2]; rfl
theorem gx_ixp {α : Type u} (xs : List α) (i : Int) : gx xs i = (ixp xs.length i).bind fun j => xs[j]? := by
  unfold ixp gx
  by_cases h : 0 ≤ i
  · rw [if_pos h, if_pos h]
    by_cases h2 : i < xs.length
    · rw [if_pos h2]; rfl
    · rw [if_neg h2, List.getElem?_eq_none (by omega)]; rfl
  · rw [if_neg h, if_neg h]
    by_cases h2 : -(xs.length : Int) ≤ i
    · rw [if_pos h2, if_pos h2]; rfl
    · rw [if_neg h2, if_neg h2]; rfl
theorem gx_map {α : Type u} {β : Type w} (f : α → β) (xs : List α) (i : Int) : gx (xs.map f) i = (gx xs i).map f := by
  unfold gx
  rw [List.length_map]
  by_cases h : 0 ≤ i
  · rw [if_pos h, if_pos h, List.getElem?_map]
  · rw [if_neg h, if_neg h]
    by_cases h2 : -(xs.length : Int) ≤ i
    · rw [if_pos h2, if_pos h2, List.getElem?_map]
    · rw [if_neg h2, if_neg h2]; rfl
theorem slc_map {α : Type u} {β : Type w} (f : α → β) (xs : List α) (lo hi : Option Int) : slc (xs.map f) lo hi = (slc xs lo hi).map f := by
  unfold slc
  rw [List.length_map, List.map_take, List.map_drop]
theorem psh_some {α : Type u} {xs : List α} {x : α} {ys : List α} (h : psh xs x = some ys) : xs.length < 16777216 ∧ ys = xs ++ [x] := by
  unfold psh at h
  split at h
  · exact ⟨by assumption, (Option.some.inj h).symm⟩
  · cases h
/-! ### lists that are read -/
section
variable {G H : Hp}
def Lv (K : PySem.W.Frag) (B : Base) (S : Stt) (x : Slot) (ss : List Slot) : Prop := ∀ {T σ v tv H G as bs}, St0 B S (x :: T) σ (v :: tv) H G as bs → ∃ a vs, v = .ref a ∧ SqL K H a vs ∧ SsI G H ss vs []
variable {K : PySem.W.Frag} {B : Base} {S : Stt}
theorem lv_val {α : Type} [DecidableEq α] [Datum α] {xs : List α} : Lv K B S (.val xs) (xs.map Slot.val) := fun z => by
  obtain ⟨a1, a2, _, h, z'⟩ := z.pop
  cases h with
  | val h =>
    generalize hd : Datum.toD xs = d at h
    have e : d = .list (xs.map Datum.toD) := hd.symm
    subst e
    cases h with
    | lst hp ha => exact ⟨_, _, rfl, .of (z.sub _ _ hp), dqAll_ss ha⟩
theorem lv_own {ss : List Slot} (hp : ∀ s ∈ ss, s.plain = true) : Lv K B S (.own (.lst ss)) ss := fun z => by
  obtain ⟨a1, a2, _, h, z'⟩ := z.pop
  cases h with
  | own hp' hc =>
    cases hc with
    | lst hs => exact ⟨_, _, rfl, .of hp', hs.plain hp ▸ hs⟩
theorem plain_map {α : Type} [DecidableEq α] [Datum α] (xs : List α) : ∀ s ∈ xs.map Slot.val, s.plain = true := fun s hs => by
  obtain ⟨x, _, rfl⟩ := List.mem_map.mp hs
  rfl
theorem lv_own' {α : Type} [DecidableEq α] [Datum α] {xs : List α} : Lv K B S (.own (.lst (xs.map Slot.val))) (xs.map Slot.val) := lv_own (plain_map xs)
theorem lv_cell (k : Nat) {p : Addr} {ss : List Slot} (hk : S.cs[k]? = some (p, .lst ss)) (hp : ∀ s ∈ ss, s.plain = true) : Lv K B S (.v (.ref p)) ss := fun z => by
  obtain ⟨a1, a2, _, h, z'⟩ := z.pop
  cases h with
  | v =>
    obtain ⟨l, o, m, r, _, hp', hc, _⟩ := z.cel.at k hk (by intro e; cases e)
    cases hc with
    | lst hs => exact ⟨_, _, rfl, .of hp', hs.plain hp ▸ hs⟩
theorem lv_cell' {α : Type} [DecidableEq α] [Datum α] (k : Nat) {p : Addr} {xs : List α} (hk : S.cs[k]? = some (p, .lst (xs.map Slot.val))) : Lv K B S (.v (.ref p)) (xs.map Slot.val) := lv_cell k hk (plain_map xs)
/-- the script, and what else is known ahead -/
theorem lv_pre {p : Addr} {ns : List Int} (h : SqL K B.G p (ns.map V.int)) : Lv K B S (.v (.ref p)) (ns.map Slot.val) := fun z => by
  obtain ⟨a1, a2, _, h', z'⟩ := z.pop
  cases h' with
  | v =>
    refine ⟨_, _, rfl, h.imp (fun r => r.imp (fun q => z.sub _ _ (z.gro _ _ q)) fun ⟨o, q⟩ => ⟨o, z.sub _ _ (z.gro _ _ q)⟩) id, ?_⟩
    exact SsI.of_get (by simp) fun i s u h1 h2 => by
      rw [List.getElem?_map] at h1 h2
      cases q : ns[i]? with
      | none => rw [q] at h1; cases h1
      | some n =>
        rw [q] at h1 h2
        cases h1
        cases h2
        exact .val (.int n)
end
section
variable {X : Cx} {B : Base} {S S1 S2 S3 : Stt} {x y z : Slot} {a b e : Expr} {es : List Expr} {pos : Pos} {D : FE} {rest : List Stmt} {ss : List Slot}
/-! ### built-ins by name -/
def OC (B : Base) (r : List V → Hp → VK → Prop) (S : Stt) (xs : List Slot) (S' : Stt) (z : Slot) : Prop := ∀ T tv σ vs H Q, vs.length = xs.length → Sta B S (xs ++ T) σ (vs ++ tv) H → (∀ w H', Sta B S' (z :: T) σ (w :: tv) H' → Q w H') → r vs H Q
theorem je_callB {r : List V → Hp → VK → Prop} {id : String} {n : Str} {p : Pos} {xs : List Slot} (hc : CallR X (.builtin id) r) (hm : X.mg n = none) (hv : bootBuiltins n = some (.builtin id)) (ha : JA X B S (e :: es) S1 xs) (hr : OC B r S1 xs S2 z) (hg : Gl X n := by rfl) (hn : n ≠ "__name__" := by decide) (hdb : (n == ("__debug__" : Str)) = false := by decide)
    (he : starEach (e :: es) X.env = (false, eval e X.env) :: starEach es X.env := by rfl) (hpl : (backTo pos (starEach es X.env)).any (·.1) = false := by rfl) : JE X B S (.Call (.Name n p) (e :: es) [] pos) S2 z := fun T tv σ H Q hs q =>
  pe1 (pe_callB hc hg hm hv pa0 hn hdb he hpl) (ha _ _ _ _ _ hs fun vs H1 hl h1 => hr _ _ _ _ _ _ hl h1 q)
theorem je_callT {r : List V → Hp → VK → Prop} {id : String} {n : Str} {p : Pos} {xs : List Slot} (hc : CallR X (.type id) r) (hm : X.mg n = none) (hv : bootBuiltins n = some (.type id)) (ha : JA X B S (e :: es) S1 xs) (hr : OC B r S1 xs S2 z) (hg : Gl X n := by rfl) (hn : n ≠ "__name__" := by decide) (hdb : (n == ("__debug__" : Str)) = false := by decide)
    (he : starEach (e :: es) X.env = (false, eval e X.env) :: starEach es X.env := by rfl) (hpl : (backTo pos (starEach es X.env)).any (·.1) = false := by rfl) : JE X B S (.Call (.Name n p) (e :: es) [] pos) S2 z := fun T tv σ H Q hs q =>
  pe1 (pe_callTy hc hg hm hv pa0 hn hdb he hpl) (ha _ _ _ _ _ hs fun vs H1 hl h1 => hr _ _ _ _ _ _ hl h1 q)
theorem oc1 {r : List V → Hp → VK → Prop} (h : ∀ T tv σ v H Q, Sta B S (x :: T) σ (v :: tv) H → (∀ w H', Sta B S2 (z :: T) σ (w :: tv) H' → Q w H') → r [v] H Q) : OC B r S [x] S2 z := fun T tv σ vs H Q hl hs q => match vs, hl with
  | [v], _ => h T tv σ v H Q hs q
theorem oc2 {r : List V → Hp → VK → Prop} (h : ∀ T tv σ v u H Q, Sta B S (x :: y :: T) σ (v :: u :: tv) H → (∀ w H', Sta B S2 (z :: T) σ (w :: tv) H' → Q w H') → r [v, u] H Q) : OC B r S [x, y] S2 z := fun T tv σ vs H Q hl hs q => match vs, hl with
  | [v, u], _ => h T tv σ v u H Q hs q
theorem je_len {n : Str} {p : Pos} {α : Type} [DecidableEq α] [Datum α] {xs : List α} (hm : X.mg "len" = none) (ha : JE X B S e S1 x) (hl : Lv X.K B S1 x (xs.map Slot.val)) (hg : Gl X "len" := by rfl) (hst : starEach [e] X.env = (false, eval e X.env) :: starEach [] X.env := by rfl) : JE X B S (.Call (.Name "len" p) [e] [] pos) S1 (.val (xs.length : Int)) :=
  je_callB call_len_seq hm boot_len (ja_cons ha ja_nil hst) (oc1 fun T tv σ v H Q hs q => by
    obtain ⟨G, as, bs, z⟩ := id hs
    obtain ⟨a, vs, rfl, hr, hss⟩ := hl z
    refine ⟨a, vs, rfl, .inl hr, ?_⟩
    have := hss.len
    rw [List.length_map] at this
    rw [← this]
    exact q _ _ (hs.drop.push fun _ _ => sl_int _)) hg (by decide) (by decide) hst
theorem je_max2 {p : Pos} {i j : Int} (hm : X.mg "max" = none) (ha : JE X B S a S1 (.val i)) (hb : JE X B S1 b S2 (.val j)) (hc : X.calm = true := by rfl) (hg : Gl X "max" := by rfl) (hst : starEach [a, b] X.env = (false, eval a X.env) :: starEach [b] X.env := by rfl) (hst2 : starEach [b] X.env = (false, eval b X.env) :: starEach [] X.env := by rfl) (hpl : (backTo pos (starEach [b] X.env)).any (·.1) = false := by rfl) : JE X B S (.Call (.Name "max" p) [a, b] [] pos) S2 (.val (if j > i then j else i)) :=
  je_callB (call_max2 hc) hm PyProof.Rows.boot_max (ja_cons ha (ja_cons hb ja_nil hst2) hst) (oc2 fun T tv σ v u H Q hs q => by
    have e := hs.int
    have e2 := hs.drop.int
    subst e e2
    exact ⟨i, j, rfl, q _ _ (hs.drop.drop.push fun _ _ => sl_int _)⟩) hg (by decide) (by decide) hst hpl
/-- list(xs): a new list -/
theorem je_list {p : Pos} (hm : X.mg "list" = none) (ha : JE X B S e S1 x) (hl : Lv X.K B S1 x ss) (hg : Gl X "list" := by rfl) (hst : starEach [e] X.env = (false, eval e X.env) :: starEach [] X.env := by rfl) : JE X B S (.Call (.Name "list" p) [e] [] pos) S1 (.own (.lst ss)) :=
  je_callT call_list_of hm (by decide +kernel) (ja_cons ha ja_nil hst) (oc1 fun T tv σ v H Q hs q => by
    obtain ⟨G, as, bs, z⟩ := hs
    obtain ⟨a, vs, rfl, hr, hss⟩ := hl z
    obtain ⟨a1, a2, rfl, _, z'⟩ := z.pop
    exact ⟨a, vs, rfl, .inl hr, fun l hn => q _ _ (z'.newO hn (.lst (hss.mono (Ex.refl G) fun _ h => nomatch h)))⟩) hg (by decide) (by decide) hst
/-! ### items, slices -/
theorem je_ix {s : Slot} {i : Int} (ha : JE X B S a S1 x) (hb : JE X B S1 b S2 (.val i)) (hl : Lv X.K B S2 x ss) (hi : gx ss i = some s) (hs : PlainIx b := by exact fun _ _ => rfl) : JE X B S (.Subscript a b pos) S2 s := fun T tv σ H Q h q =>
  pe1 (pe_ix ix_list pe0 pe0 hs) (ha _ _ _ _ _ h fun v H1 h1 => hb _ _ _ _ _ h1 fun u H2 h2 => by
    have e := h2.int
    subst e
    have h3 := h2.drop
    obtain ⟨G, as, bs, z⟩ := id h3
    obtain ⟨p, vs, rfl, hr, hss⟩ := hl z
    obtain ⟨a1, a2, rfl, _, z'⟩ := z.pop
    rw [gx_ixp] at hi
    cases hj : ixp ss.length i with
    | none => rw [hj] at hi; cases hi
    | some j =>
      rw [hj] at hi
      obtain ⟨w, hw, sw⟩ := hss.get j hi
      refine ⟨p, vs, i, w, rfl, rfl, hr, ?_, q w H2 ⟨G, [] ++ a2, bs, .cons sw z'.tmp, z'.cel, z'.slo, z'.nod, z'.fre, z'.gro, z'.new, z'.sub, z'.frm⟩⟩
      rw [atI_gx, gx_ixp, ← hss.len, hj]
      exact hw)
theorem je_ixv {α : Type} [DecidableEq α] [Datum α] {xs : List α} {t : α} {i : Int} (ha : JE X B S a S1 x) (hb : JE X B S1 b S2 (.val i)) (hl : Lv X.K B S2 x (xs.map Slot.val)) (hi : gx xs i = some t) (hs : PlainIx b := by exact fun _ _ => rfl) : JE X B S (.Subscript a b pos) S2 (.val t) :=
  je_ix ha hb hl (by rw [gx_map, hi]; rfl) hs
/-- a slice's part -/
def JO (X : Cx) (B : Base) (S : Stt) (e : Option Expr) (S' : Stt) (o : Option Int) : Prop := ∀ T tv σ H (Q : Option Int → Hp → Prop), Sta B S T σ tv H → (∀ H', Sta B S' T σ tv H' → Q o H') → ∃ t, PO X e t ∧ t σ H Q
def toOf (X : Cx) (e : Option Expr) : TO := fun σ H Q => ∃ t, PO X e t ∧ t σ H Q
theorem po0 {o : Option Expr} : PO X o (toOf X o) := ⟨fun pins s σ H Q I ⟨_, hp, h⟩ => hp.run pins s σ H Q I h⟩
theorem jo_none : JO X B S none S none := fun T tv σ H Q hs q => ⟨_, po_none, q H hs⟩
theorem jo_some {i : Int} (h : JE X B S e S1 (.val i)) : JO X B S (some e) S1 (some i) := fun T tv σ H Q hs q => ⟨_, po_some pe0, h _ _ _ _ _ hs fun v H' g => by
  have e := g.int
  subst e
  exact ⟨i, rfl, q _ g.drop⟩⟩
theorem cutV_slc (vs : List V) (lo hi : Option Int) : cutV vs lo hi = slc vs lo hi := by unfold cutV slc; rw [sx_eq, sx_eq]
theorem slc_get {α : Type u} {β : Type w} (f : α → β → Prop) {xs : List α} {ys : List β} (lo hi : Option Int) (hl : xs.length = ys.length) (h : ∀ (i : Nat) s u, xs[i]? = some s → ys[i]? = some u → f s u) : ∀ (i : Nat) s u, (slc xs lo hi)[i]? = some s → (slc ys lo hi)[i]? = some u → f s u := fun i s u h1 h2 => by
  unfold slc at h1 h2
  rw [hl] at h1
  rw [List.getElem?_take] at h1 h2
  split at h1
  · rw [if_pos (by assumption)] at h2
    rw [List.getElem?_drop] at h1 h2
    exact h _ _ _ h1 h2
  · cases h1
theorem slc_len {α : Type u} {β : Type w} {xs : List α} {ys : List β} (lo hi : Option Int) (hl : xs.length = ys.length) : (slc xs lo hi).length = (slc ys lo hi).length := by
  unfold slc
  rw [List.length_take, List.length_take, List.length_drop, List.length_drop, hl]
theorem je_slc {lo hi : Option Expr} {l h : Option Int} {p2 : Pos} (ha : JE X B S a S1 x) (hlo : JO X B S1 lo S2 l) (hhi : JO X B S2 hi S3 h) (hl : Lv X.K B S3 x ss) : JE X B S (.Subscript a (.Slice lo hi none p2) pos) S3 (.own (.lst (slc ss l h))) := fun T tv σ H Q g q =>
  pe1 (pe_slice sl_list pe0 po0 po0) (ha _ _ _ _ _ g fun v H1 h1 => hlo _ _ _ _ _ h1 fun H2 h2 => hhi _ _ _ _ _ h2 fun H3 h3 => by
    obtain ⟨G, as, bs, z⟩ := h3
    obtain ⟨p, vs, rfl, hr, hss⟩ := hl z
    obtain ⟨a1, a2, rfl, _, z'⟩ := z.pop
    refine ⟨p, vs, rfl, hr, fun q' hq => ?_⟩
    refine q _ _ (z'.newO hq ?_)
    rw [cutV_slc]
    have cut : SsI G H3 (slc ss l h) (slc vs l h) [] := SsI.of_get (slc_len l h hss.len) (slc_get (fun s u => SlI G H3 s u []) l h hss.len fun i s u h1 h2 => by
      obtain ⟨u', e1, e2⟩ := hss.get i h1
      rw [h2] at e1
      cases e1
      exact e2)
    exact .lst (cut.mono (Ex.refl G) fun _ h => nomatch h))
theorem je_slcv {α : Type} [DecidableEq α] [Datum α] {xs : List α} {lo hi : Option Expr} {l h : Option Int} {p2 : Pos} (ha : JE X B S a S1 x) (hlo : JO X B S1 lo S2 l) (hhi : JO X B S2 hi S3 h) (hl : Lv X.K B S3 x (xs.map Slot.val)) : JE X B S (.Subscript a (.Slice lo hi none p2) pos) S3 (.own (.lst ((slc xs l h).map Slot.val))) :=
  slc_map Slot.val xs l h ▸ je_slc ha hlo hhi hl
end
end J
namespace J
universe u w
open PySem L2
open PySem.W (Datum)
section
variable {B : Base} {S : Stt} {T : List Slot} {σ : St} {tv : List V} {H G : Hp} {as bs : List Addr} {x : Slot} {v : V}
/-- the thing of the k-th cell, and what may be written in its place: less, or as much, owned -/
theorem St0.cellW (z : St0 B S T σ tv H G as bs) {k : Nat} {p : Addr} {c : Cel} (hk : S.cs[k]? = some (p, c)) (hg : c ≠ .gone) :
    ∃ o m, H p = some o ∧ CeI G H c o m ∧ G p = none ∧ (∀ a ∈ m, a ≠ p) ∧ (∀ a ∈ as, a ≠ p) ∧ ∀ {c' : Cel} {o' : HO} {m' : List Addr}, CeI G (upd H p o') c' o' m' → m'.Sublist m → ∃ bs', St0 B ⟨S.sl, S.cs.set k (p, c')⟩ T σ tv (upd H p o') G as bs' := by
  obtain ⟨l, o, m, r, rfl, hp, hc, reb⟩ := z.cel.at k hk hg
  have nd := z.nod
  have pm : (as ++ (l ++ (p :: m) ++ r)).Perm (p :: (m ++ ((as ++ l) ++ r))) := by
    have e1 : (l ++ (p :: m) ++ r).Perm ((p :: m) ++ (l ++ r)) := by
      rw [List.append_assoc]
      exact (List.perm_append_comm (l₁ := l)).trans (by rw [List.append_assoc]; exact List.Perm.append_left _ List.perm_append_comm)
    have e2 : (as ++ ((p :: m) ++ (l ++ r))).Perm ((p :: m) ++ (as ++ (l ++ r))) := by
      rw [← List.append_assoc, ← List.append_assoc (p :: m)]
      exact List.Perm.append_right _ List.perm_append_comm
    have e3 := (List.Perm.append_left as e1).trans e2
    rw [← List.append_assoc as l r] at e3
    exact e3
  have nd2 := pm.nodup_iff.mp nd
  have nd3 := List.nodup_cons.mp nd2
  have hpm : ∀ a ∈ m, a ≠ p := fun a ha e => nd3.1 (by rw [← e]; exact List.mem_append_left _ ha)
  have hpa : ∀ a ∈ as, a ≠ p := fun a ha e => nd3.1 (by rw [← e]; exact List.mem_append_right _ (List.mem_append_left _ (List.mem_append_left _ ha)))
  have hpl : ∀ a ∈ l ++ r, a ≠ p := fun a ha e => nd3.1 (by
    rw [← e]
    rcases List.mem_append.mp ha with h | h
    · exact List.mem_append_right _ (List.mem_append_left _ (List.mem_append_right _ h))
    · exact List.mem_append_right _ (List.mem_append_right _ h))
  have mp : p ∈ as ++ (l ++ (p :: m) ++ r) := pm.mem_iff.mpr List.mem_cons_self
  refine ⟨o, m, hp, hc, (z.fre p mp).1, hpm, hpa, fun {c' o' m'} hc' hs => ⟨l ++ (p :: m') ++ r, ?_⟩⟩
  have sub : (as ++ (l ++ (p :: m') ++ r)).Sublist (as ++ (l ++ (p :: m) ++ r)) := (List.Sublist.refl as).append (((List.Sublist.refl l).append (hs.cons_cons p)).append (List.Sublist.refl r))
  exact ⟨z.tmp.mono (Ex.refl G) fun a ha => upd_ne (hpa a ha), (reb (Ex.refl G) fun a ha => upd_ne (hpl a ha)).1 upd_same hc', z.slo, sub.nodup nd, fun a ha => z.fre a (sub.mem ha), z.gro, z.new,
    fun a u ha => by rw [upd_ne (by intro e; subst e; rw [(z.fre a mp).1] at ha; cases ha)]; exact z.sub a u ha, fun a u ha => by rw [upd_ne (by intro e; subst e; rw [(z.fre a mp).2] at ha; cases ha)]; exact z.frm a u ha⟩
theorem St0.push (z : St0 B S T σ tv H G as bs) (h : SlI G H x v []) : Sta B S (x :: T) σ (v :: tv) H := ⟨G, [] ++ as, bs, .cons h z.tmp, z.cel, z.slo, z.nod, z.fre, z.gro, z.new, z.sub, z.frm⟩
theorem SlI.any' {G H H' : Hp} (h : SlI G H x v []) : SlI G H' x v [] := h.mono (Ex.refl G) fun _ h => nomatch h
theorem SsI.any' {G H H' : Hp} {ss : List Slot} {vs : List V} (h : SsI G H ss vs []) : SsI G H' ss vs [] := h.mono (Ex.refl G) fun _ h => nomatch h
end
section
variable {X : Cx} {B : Base} {S S1 S2 S3 : Stt} {x y z : Slot} {a b e o : Expr} {es : List Expr} {pos apos : Pos} {D : FE} {rest : List Stmt} {ss : List Slot} {p : Addr}
/-! ### a method of a list that has a name -/
/-- with arguments: the object, then the arguments, then what the method asks -/
theorem je_bm {id : String} {r : V → List V → Hp → VK → Prop} {name : Str} {xs : List Slot} {ss0 : List Slot} (k : Nat) (slot : PySem.Slot "list" name id) (hty : typeOf (.builtin id) = pure (.type "method_descriptor")) (hm : MtR X id r) (ho : JE X B S o S1 (.v (.ref p))) (hk : S1.cs[k]? = some (p, .lst ss0)) (ha : JA X B S1 (e :: es) S2 xs)
    (hr : ∀ T tv σ vs H Q, vs.length = xs.length → Sta B S2 (xs ++ T) σ (vs ++ tv) H → (∀ w H', Sta B S3 (z :: T) σ (w :: tv) H' → Q w H') → r (.ref p) vs H Q)
    (hbase : attributeBase o name X.env (eval o X.env) = eval o X.env := by rfl)
    (hfew : ((backTo pos (starEach (e :: es) X.env)).all (fun x => !x.1) && (backToKw pos (keywordEach [] X.env)).all (fun x => x.1.isSome) && decide ((e :: es).length + ([] : List Keyword).length + (if ([] : List Keyword).isEmpty then 0 else 1) < 30)) = true := by rfl)
    (hline : (apos.endLine == pos.line) = true := by rfl) (hs : starEach (e :: es) X.env = (false, eval e X.env) :: starEach es X.env := by rfl) (hplain : (backTo pos (starEach es X.env)).any (·.1) = false := by rfl) : JE X B S (.Call (.Attribute o name apos) (e :: es) [] pos) S3 z := fun T tv σ H Q h q =>
  pe1 (pe_bm PySem.F.plainAttrs_list slot hty hm pe0 pa0 hbase hfew hline hs hplain) (ho _ _ _ _ _ h fun v H1 h1 => by
    have e := h1.exact
    subst e
    have h2 := h1.drop
    have h2' := h2
    obtain ⟨G, as, bs, z0⟩ := h2'
    obtain ⟨oo, m, hp, hc, _⟩ := z0.cellW hk (by intro e; cases e)
    cases hc with
    | lst hs => exact ⟨.inl ⟨rfl, _, .of hp⟩, ha _ _ _ _ _ h2 fun vs H3 hl h3 => hr _ _ _ _ _ _ hl h3 q⟩)
theorem je_bm0 {id : String} {r : V → List V → Hp → VK → Prop} {name : Str} {ss0 : List Slot} (k : Nat) (slot : PySem.Slot "list" name id) (hty : typeOf (.builtin id) = pure (.type "method_descriptor")) (hm : MtR X id r) (ho : JE X B S o S1 (.v (.ref p))) (hk : S1.cs[k]? = some (p, .lst ss0))
    (hr : ∀ T tv σ H Q, Sta B S1 T σ tv H → (∀ w H', Sta B S3 (z :: T) σ (w :: tv) H' → Q w H') → r (.ref p) [] H Q)
    (hbase : attributeBase o name X.env (eval o X.env) = eval o X.env := by rfl) (hline : (apos.endLine == pos.line) = true := by rfl) : JE X B S (.Call (.Attribute o name apos) [] [] pos) S3 z := fun T tv σ H Q h q =>
  pe1 (pe_bm0 PySem.F.plainAttrs_list slot hty hm pe0 hbase hline) (ho _ _ _ _ _ h fun v H1 h1 => by
    have e := h1.exact
    subst e
    have h2 := h1.drop
    have h2' := h2
    obtain ⟨G, as, bs, z0⟩ := h2'
    obtain ⟨oo, m, hp, hc, _⟩ := z0.cellW hk (by intro e; cases e)
    cases hc with
    | lst hs => exact ⟨.inl ⟨rfl, _, .of hp⟩, hr _ _ _ _ _ h2 q⟩)
theorem je_append (k : Nat) (ho : JE X B S o S1 (.v (.ref p))) {ss0 : List Slot} (hk0 : S1.cs[k]? = some (p, .lst ss0)) (he : JE X B S1 e S2 y) (hk : S2.cs[k]? = some (p, .lst ss)) (hl : ss.length < 16777216) (hy : y.plain = true := by rfl)
    (hbase : attributeBase o "append" X.env (eval o X.env) = eval o X.env := by rfl) (hst : starEach [e] X.env = (false, eval e X.env) :: starEach [] X.env := by rfl)
    (hfew : ((backTo pos (starEach [e] X.env)).all (fun x => !x.1) && (backToKw pos (keywordEach [] X.env)).all (fun x => x.1.isSome) && decide (([e] : List Expr).length + ([] : List Keyword).length + (if ([] : List Keyword).isEmpty then 0 else 1) < 30)) = true := by rfl)
    (hline : (apos.endLine == pos.line) = true := by rfl) : JE X B S (.Call (.Attribute o "append" apos) [e] [] pos) ⟨S2.sl, S2.cs.set k (p, .lst (ss ++ [y]))⟩ (.v .non) :=
  je_bm k PySem.F.slot_list_append PySem.F.type_list_append mt_append ho hk0 (ja_cons he ja_nil hst) (fun T tv σ vs H Q hl' h q => by
    obtain ⟨v, rfl⟩ : ∃ v, vs = [v] := match vs, hl' with | [v], _ => ⟨v, rfl⟩
    obtain ⟨G, as, bs, z0⟩ := id h
    obtain ⟨a1, a2, rfl, hs1, z1⟩ := z0.pop
    obtain rfl := hs1.nil hy
    obtain ⟨oo, m, hp, hc, _, hm1, _, reb⟩ := z1.cellW hk (by intro e; cases e)
    cases hc with
    | @lst _ vs0 _ hs =>
      have hz : vs0.length < sizeLine := by rw [← hs.len]; exact hl
      refine ⟨p, vs0, v, rfl, rfl, hp, hz, ?_⟩
      have hnew : CeI G (upd H p (.lst (vs0 ++ [v]))) (.lst (ss ++ [y])) (.lst (vs0 ++ [v])) (m ++ []) := .lst ((hs.mono (Ex.refl G) fun a ha => upd_ne (hm1 a ha)).app (SsI.one hs1.any'))
      obtain ⟨bs', z3⟩ := reb hnew (by rw [List.append_nil]; exact List.Sublist.refl m)
      exact q _ _ (z3.push .v)) hbase hfew hline hst
/-- pop(i) -/
theorem je_popAt (k : Nat) {i : Int} {j : Nat} (ho : JE X B S o S1 (.v (.ref p))) {ss0 : List Slot} (hk0 : S1.cs[k]? = some (p, .lst ss0)) (he : JE X B S1 e S2 (.val i)) (hk : S2.cs[k]? = some (p, .lst ss)) (hp : ∀ s ∈ ss, s.plain = true) {s : Slot} (hj : ixp ss.length i = some j) (hl : ss[j]? = some s) (h63 : ss.length ≤ 16777216)
    (hbase : attributeBase o "pop" X.env (eval o X.env) = eval o X.env := by rfl) (hst : starEach [e] X.env = (false, eval e X.env) :: starEach [] X.env := by rfl)
    (hfew : ((backTo pos (starEach [e] X.env)).all (fun x => !x.1) && (backToKw pos (keywordEach [] X.env)).all (fun x => x.1.isSome) && decide (([e] : List Expr).length + ([] : List Keyword).length + (if ([] : List Keyword).isEmpty then 0 else 1) < 30)) = true := by rfl)
    (hline : (apos.endLine == pos.line) = true := by rfl) : JE X B S (.Call (.Attribute o "pop" apos) [e] [] pos) ⟨S2.sl, S2.cs.set k (p, .lst (ss.eraseIdx j))⟩ s :=
  je_bm k PySem.F.slot_list_pop PySem.F.type_list_pop mt_popAt ho hk0 (ja_cons he ja_nil hst) (fun T tv σ vs H Q hl' h q => by
    obtain ⟨v, rfl⟩ : ∃ v, vs = [v] := match vs, hl' with | [v], _ => ⟨v, rfl⟩
    have e := h.int
    subst e
    obtain ⟨G, as, bs, z1⟩ := h.drop
    obtain ⟨oo, m, hpp, hc, _, hm1, _, reb⟩ := z1.cellW hk (by intro e; cases e)
    cases hc with
    | @lst _ vs0 _ hs =>
      obtain rfl := hs.plain hp
      obtain ⟨u, hu, su⟩ := hs.get _ hl
      have hx : ixN vs0.length i = some j := by rw [← hs.len]; exact hj
      obtain ⟨x1, x2, x3, x4⟩ := ixN_seq hx
      have hlen := hs.len
      refine ⟨p, vs0, i, j, u, rfl, rfl, hpp, by omega, by omega, x1, hu, ?_⟩
      have hnew : CeI G (upd H p (.lst (vs0.eraseIdx j))) (.lst (ss.eraseIdx j)) (.lst (vs0.eraseIdx j)) [] := .lst (SsI.of_get (by rw [List.length_eraseIdx, List.length_eraseIdx, hs.len]) fun i s u h1 h2 => by
        rw [List.getElem?_eraseIdx] at h1 h2
        split at h1
        · rw [if_pos (by assumption)] at h2
          obtain ⟨u', e1, e2⟩ := hs.get _ h1
          rw [h2] at e1
          cases e1
          exact e2.any'
        · rw [if_neg (by assumption)] at h2
          obtain ⟨u', e1, e2⟩ := hs.get _ h1
          rw [h2] at e1
          cases e1
          exact e2.any')
      obtain ⟨bs', z3⟩ := reb hnew (List.Sublist.refl _)
      exact q _ _ (z3.push su.any')) hbase hfew hline hst
theorem je_reverse (k : Nat) (ho : JE X B S o S1 (.v (.ref p))) (hk : S1.cs[k]? = some (p, .lst ss)) (hp : ∀ s ∈ ss, s.plain = true)
    (hbase : attributeBase o "reverse" X.env (eval o X.env) = eval o X.env := by rfl) (hline : (apos.endLine == pos.line) = true := by rfl) : JE X B S (.Call (.Attribute o "reverse" apos) [] [] pos) ⟨S1.sl, S1.cs.set k (p, .lst ss.reverse)⟩ (.v .non) :=
  je_bm0 k PySem.F.slot_list_reverse PySem.F.type_list_reverse mt_reverse ho hk (fun T tv σ H Q h q => by
    obtain ⟨G, as, bs, z0⟩ := id h
    obtain ⟨oo, m, hpp, hc, _, hm1, _, reb⟩ := z0.cellW hk (by intro e; cases e)
    cases hc with
    | @lst _ vs0 _ hs =>
      obtain rfl := hs.plain hp
      refine ⟨p, vs0, rfl, rfl, hpp, ?_⟩
      have hlen := hs.len
      have hnew : CeI G (upd H p (.lst vs0.reverse)) (.lst ss.reverse) (.lst vs0.reverse) [] := .lst (SsI.of_get (by rw [List.length_reverse, List.length_reverse, hlen]) fun i s u h1 h2 => by
        have hi : i < ss.length := by
          have := (List.getElem?_eq_some_iff.mp h1).1
          rwa [List.length_reverse] at this
        rw [List.getElem?_reverse hi] at h1
        rw [List.getElem?_reverse (by omega)] at h2
        obtain ⟨u', e1, e2⟩ := hs.get _ h1
        rw [hlen, h2] at e1
        cases e1
        exact e2.any')
      obtain ⟨bs', z3⟩ := reb hnew (List.Sublist.refl _)
      exact q _ _ (z3.push .v)) hbase hline
/-! ### xs[i] = e, xs[i] op= e -/
theorem jg_sub (k : Nat) {i : Int} {j : Nat} {ix : Expr} (ho : JE X B S o S1 (.v (.ref p))) (hi : JE X B S1 ix S2 (.val i)) (hk : S2.cs[k]? = some (p, .lst ss)) (hj : ixp ss.length i = some j) (hp : ∀ s ∈ ss, s.plain = true) (hy : y.plain = true := by rfl)
    (ha : ∀ v, assign (.Subscript o ix pos) X.env v = (do
      let ov ← holding [v] (eval o X.env)
      let iv ← holding [v, ov] (eval ix X.env)
      standAt pos
      holding [v, ov, iv] (setItem ov iv v)
      release [v, ov, iv] []) := by intro _; rfl) : JG X B S (.Subscript o ix pos) y ⟨S2.sl, S2.cs.set k (p, .lst (ss.set j y))⟩ [] := fun T tv σ v H Q h q =>
  pg1 (pg_sub pe0 pe0 set_list ha) (ho _ _ _ _ _ h fun w H1 h1 => by
    have e := h1.exact
    subst e
    refine hi _ _ _ _ _ h1 fun w H2 h2 => ?_
    have e := h2.int
    subst e
    obtain ⟨G, as, bs, z0⟩ := h2.drop.drop
    obtain ⟨a1, a2, rfl, hs1, z1⟩ := z0.pop
    obtain rfl := hs1.nil hy
    obtain ⟨oo, m, hpp, hc, _, hm1, _, reb⟩ := z1.cellW hk (by intro e; cases e)
    cases hc with
    | @lst _ vs0 _ hs =>
      obtain rfl := hs.plain hp
      refine ⟨p, vs0, i, j, rfl, rfl, hpp, by rw [← hs.len]; exact hj, ?_⟩
      have hnew : CeI G (upd H2 p (.lst (vs0.set j v))) (.lst (ss.set j y)) (.lst (vs0.set j v)) [] := .lst (SsI.of_get (by rw [List.length_set, List.length_set, hs.len]) fun n s u h1 h2 => by
        rw [List.getElem?_set] at h1 h2
        have hlen := hs.len
        by_cases e : j = n
        · rw [if_pos e] at h1 h2
          split at h1
          · rw [if_pos (by omega)] at h2
            cases h1
            cases h2
            exact hs1.any'
          · cases h1
        · rw [if_neg e] at h1 h2
          obtain ⟨u', e1, e2⟩ := hs.get _ h1
          rw [h2] at e1
          cases e1
          exact e2.any')
      obtain ⟨bs', z3⟩ := reb hnew (List.Sublist.refl _)
      exact q _ _ (Chg.refl _ _) z3.sta)
/-- any target -/
theorem js_asg {tg : Expr} (he : JE X B S e S1 x) {ws : List Nat} (hg : JG X B S1 tg x S2 ws) (k : JS X B S2 rest D) (hs : swapsWithSole [tg] e pos.line X.env = pure false := by rfl) (hw : swappedStores [tg] e X.env = pure none := by rfl) (h1 : (assignEach [tg] X.env).map (·.2) = [assign tg X.env] := by rfl) : JS X B S (.Assign [tg] e pos :: rest) D :=
  js_step (ps_asg pe0 pg0 hs hw h1) fun T tv σ H h => he _ _ _ _ _ h fun v H1 h1 => hg _ _ _ _ _ _ h1 fun σ' H' _ h2 => k _ _ _ _ h2
end
end J
namespace J
universe u w
open PySem L2
open PySem.W (Datum DatumOrd Holds HoldAll)
section
variable {X : Cx} {pins : List (Addr × Obj)} {σ : St} {H : Hp} {s : Shared}
theorem holds_of {α : Type} [DecidableEq α] [Datum α] {t : α} {v : V} {u : Value} (I : Inv X pins σ H s) (h : Dq H v (Datum.toD t)) (r : RelV v u) : Holds s.heap u t := Dp.reads I _ _ _ (dq_dp h) r
def rEqT : R2 := fun x y H Q => ∃ (α : Type) (i1 : DecidableEq α) (i2 : Datum α) (t r : α), Dq H x (Datum.toD t) ∧ Dq H y (Datum.toD r) ∧ Datum.depth α ≤ 60 ∧ Q (.bl (decide (t = r))) H
def rNeT : R2 := fun x y H Q => ∃ (α : Type) (i1 : DecidableEq α) (i2 : Datum α) (t r : α), Dq H x (Datum.toD t) ∧ Dq H y (Datum.toD r) ∧ Datum.depth α ≤ 60 ∧ Q (.bl (decide (t ≠ r))) H
theorem op_eqT (hu : X.A.units + 64 < cLine) : OpR X (compareOp .Eq) rEqT := by
  intro pins s σ H x y v u Q I rx ry h
  obtain ⟨α, i1, i2, t, r, h1, h2, hd, q⟩ := h
  exact PySem.W.eq_datum (holds_of I h1 rx) (holds_of I h2 ry) (by omega) ⟨.bl _, H, I, rfl, q⟩
theorem op_neT (hu : X.A.units + 64 < cLine) : OpR X (compareOp .NotEq) rNeT := by
  intro pins s σ H x y v u Q I rx ry h
  obtain ⟨α, i1, i2, t, r, h1, h2, hd, q⟩ := h
  exact PySem.W.ne_datum (holds_of I h1 rx) (holds_of I h2 ry) (by omega) ⟨.bl _, H, I, rfl, q⟩
end
/-! ### over the typed states -/
def Dv {α : Type} [DecidableEq α] [Datum α] (B : Base) (S : Stt) (x : Slot) (t : α) : Prop := ∀ {T σ v tv H G as bs}, St0 B S (x :: T) σ (v :: tv) H G as bs → Dq H v (Datum.toD t)
section
variable {B : Base} {S : Stt} {α : Type} [DecidableEq α] [Datum α] {t : α}
theorem dv_fz {x : Slot} (f : FzS x (Datum.toD t)) : Dv B S x t := fun z => by
  obtain ⟨a1, a2, _, h, z'⟩ := z.pop
  exact f.dq h z.sub fun _ _ => rfl
theorem dv_val : Dv B S (.val t) t := dv_fz .val
theorem dv_cell (k : Nat) {p : Addr} {c : Cel} (hk : S.cs[k]? = some (p, c)) (f : FzC c (Datum.toD t)) : Dv B S (.v (.ref p)) t := fun z => by
  obtain ⟨a1, a2, _, h, z'⟩ := z.pop
  cases h with
  | v =>
    obtain ⟨l, o, m, r, _, hp, hc, _⟩ := z.cel.at k hk (by intro e; subst e; cases f)
    exact f.dq hc hp z.sub fun _ _ => rfl
theorem dv_cellL {xs : List α} (k : Nat) {p : Addr} (hk : S.cs[k]? = some (p, .lst (xs.map Slot.val))) : Dv B S (.v (.ref p)) xs := dv_cell k hk (fz_val xs)
theorem dv_ownL {xs : List α} : Dv B S (.own (.lst (xs.map Slot.val))) xs := dv_fz (.own (fz_val xs))
end
section
variable {X : Cx} {B : Base} {S S1 S2 S3 : Stt} {x y z : Slot} {a b e o : Expr} {es : List Expr} {pos apos : Pos} {D : FE} {rest : List Stmt} {α : Type} [DecidableEq α] [Datum α] {t r : α} {xs : List α} {k : Nat}
theorem o2_eq (h1 : Dv B S x t) (h2 : Dv B S y r) (hd : Datum.depth α ≤ 60) : O2 X B rEqT S x y S (.val (decide (t = r))) := fun T tv σ v u H Q h q => by
  obtain ⟨G, as, bs, z⟩ := h
  obtain ⟨a1, a2, rfl, _, z'⟩ := id z.pop
  exact ⟨α, _, _, t, r, h1 z', h2 z, hd, q _ _ (z'.sta.drop.push fun _ _ => sl_bl _)⟩
theorem o2_ne (h1 : Dv B S x t) (h2 : Dv B S y r) (hd : Datum.depth α ≤ 60) : O2 X B rNeT S x y S (.val (decide (t ≠ r))) := fun T tv σ v u H Q h q => by
  obtain ⟨G, as, bs, z⟩ := h
  obtain ⟨a1, a2, rfl, _, z'⟩ := id z.pop
  exact ⟨α, _, _, t, r, h1 z', h2 z, hd, q _ _ (z'.sta.drop.push fun _ _ => sl_bl _)⟩
theorem jt_eq' (hr : Room k X.A) (ha : JE X B S a S1 x) (hb : JE X B S1 b S2 y) (h1 : Dv B S2 x t) (h2 : Dv B S2 y r) (hd : Datum.depth α ≤ 60 := by decide) : JT X B S (.Compare a [.Eq] [b] pos) S2 (decide (t = r)) := jt_cmp (op_eqT hr.units) ha hb (o2_eq h1 h2 hd) (nomark _)
theorem jt_ne' (hr : Room k X.A) (ha : JE X B S a S1 x) (hb : JE X B S1 b S2 y) (h1 : Dv B S2 x t) (h2 : Dv B S2 y r) (hd : Datum.depth α ≤ 60 := by decide) : JT X B S (.Compare a [.NotEq] [b] pos) S2 (decide (t ≠ r)) := jt_cmp (op_neT hr.units) ha hb (o2_ne h1 h2 hd) (nomark _)
/-! min(xs), max(xs) -/
end
end J
namespace J
universe u w
open PySem L2
open PySem.W (Datum DatumOrd Holds HoldAll T3 T4)
section
variable {X : Cx} {B : Base} {S S1 S2 S3 : Stt} {x y z : Slot} {a b e o : Expr} {es : List Expr} {pos apos : Pos} {D : FE} {rest : List Stmt} {k : Nat} {tg : Expr}
/-! ### what loops walk -/
/-- a list: a value, or one that has a name and is left as it is -/
theorem ji_list {α : Type} [DecidableEq α] [Datum α] {xs : List α} {ok : Stt → Prop} (ha : JE X B S e S1 x) (hl : Lv X.K B S1 x (xs.map Slot.val)) (hok : ∀ S, ok S → Lv X.K B S x (xs.map Slot.val)) : JI X B S tg e S1 [x] (xs.map Slot.val) ok := fun T tv σ H R hs q =>
  pi1 (pi_list pe0) (ha _ _ _ _ _ hs fun v H1 h1 => by
    obtain ⟨G, as, bs, z⟩ := id h1
    obtain ⟨p, vs, rfl, hr, hss⟩ := hl z
    refine ⟨p, rfl, ⟨vs, hr⟩, q (Itl X.K p) [.ref p] H1 rfl h1 ⟨fun S T σ tv H i s hS hi h => ?_, fun S T σ tv H hS h => ?_⟩⟩
    · obtain ⟨G, as, bs, z⟩ := id h
      obtain ⟨p', vs', e, hr', hss'⟩ := hok S hS z
      cases e
      obtain ⟨u, hu, su⟩ := hss'.get i hi
      refine ⟨⟨vs', u, hr', hu⟩, fun v H' hy => ?_⟩
      obtain ⟨rfl, hy⟩ := hy
      have e := hy vs' (hr')
      rw [hu] at e
      cases e
      exact z.push su
    · obtain ⟨G, as, bs, z⟩ := id h
      obtain ⟨p', vs', e, hr', hss'⟩ := hok S hS z
      cases e
      exact ⟨vs', hr', Nat.le_of_eq hss'.len.symm⟩)
theorem ji_own {α : Type} [DecidableEq α] [Datum α] {xs : List α} (ha : JE X B S e S1 (.own (.lst (xs.map Slot.val)))) : JI X B S tg e S1 [.own (.lst (xs.map Slot.val))] (xs.map Slot.val) (fun _ => True) := ji_list ha lv_own' fun _ _ => lv_own'
theorem ji_pre {ns : List Int} {p : Addr} (ha : JE X B S e S1 (.v (.ref p))) (h : SqL X.K B.G p (ns.map V.int)) : JI X B S tg e S1 [.v (.ref p)] (ns.map Slot.val) (fun _ => True) := ji_list ha (lv_pre h) fun _ _ => lv_pre h
/-- lo, lo + 1, .. -/
def rng (lo : Int) (n : Nat) : List Int := (List.range n).map fun i : Nat => lo + (i : Int)
theorem rng_len (lo : Int) (n : Nat) : (rng lo n).length = n := by unfold rng; rw [List.length_map, List.length_range]
theorem rng_get {lo : Int} {n i : Nat} {m : Int} (h : (rng lo n)[i]? = some m) : i < n ∧ m = lo + i := by
  unfold rng at h
  rw [List.getElem?_map] at h
  cases q : (List.range n)[i]? with
  | none => rw [q] at h; cases h
  | some j =>
    rw [q] at h
    cases h
    obtain ⟨h1, h2⟩ := List.getElem?_eq_some_iff.mp q
    rw [List.getElem_range] at h2
    subst h2
    rw [List.length_range] at h1
    exact ⟨h1, rfl⟩
theorem wk_range {lo : Int} {n : Nat} : Wk X B [] [] ((rng lo n).map Slot.val) (fun _ => True) (Itr lo n) :=
  ⟨fun S T σ tv H i s _ hi h => by
    rw [List.getElem?_map] at hi
    cases q : (rng lo n)[i]? with
    | none => rw [q] at hi; cases hi
    | some m =>
      rw [q] at hi
      cases hi
      obtain ⟨h1, rfl⟩ := rng_get q
      exact ⟨h1, fun v H' ⟨e1, e2⟩ => by
        subst e1 e2
        exact h.push fun _ _ => sl_int _⟩, fun S T σ tv H _ _ => by
    rw [List.length_map, rng_len]
    exact Nat.le_refl _⟩
theorem ji_range1 {p : Pos} {j : Int} (hm : X.mg "range" = none) (ha : JE X B S e S1 (.val j)) (hj : -(4611686018427387904 : Int) ≤ j ∧ j < 4611686018427387904) (hg : Gl X "range" := by rfl) (hst : starEach [e] X.env = (false, eval e X.env) :: starEach [] X.env := by rfl) (hs : starEach [e] X.env = [(false, eval e X.env)] := by rfl) : JI X B S tg (.Call (.Name "range" p) [e] [] pos) S1 [] ((rng 0 j.toNat).map Slot.val) (fun _ => True) := fun T tv σ H R h q =>
  pi1 (pi_range1 hg hm pa0 hs) (ja_cons ha ja_nil hst _ _ _ _ _ h fun vs H1 hl h1 => by
    obtain ⟨v, rfl⟩ : ∃ v, vs = [v] := match vs, hl with | [v], _ => ⟨v, rfl⟩
    have e := h1.int
    subst e
    exact ⟨j, rfl, hj.1, hj.2, q _ [] _ rfl h1.drop wk_range⟩)
/-- enumerate -/
def enu {α : Type} (i : Int) : List α → List (Int × α)
  | [] => []
  | x :: xs => (i, x) :: enu (i + 1) xs
theorem enu_len {α : Type} : ∀ (i : Int) (xs : List α), (enu i xs).length = xs.length
  | _, [] => rfl
  | i, _ :: xs => congrArg Nat.succ (enu_len (i + 1) xs)
theorem enu_get {α : Type} : ∀ (i : Int) (xs : List α) (n : Nat) {p : Int × α}, (enu i xs)[n]? = some p → p.1 = i + n ∧ xs[n]? = some p.2
  | _, [], _, _, h => by simp [enu] at h
  | i, x :: xs, 0, p, h => by
    have e : (i, x) = p := Option.some.inj h
    subst e
    exact ⟨by simp, rfl⟩
  | i, x :: xs, n + 1, p, h => by
    obtain ⟨h1, h2⟩ := enu_get (i + 1) xs n (show (enu (i + 1) xs)[n]? = some p from h)
    exact ⟨by rw [h1]; omega, h2⟩
/-- a new pair -/
theorem push_pair {α β : Type} [DecidableEq α] [Datum α] [DecidableEq β] [Datum β] {T : List Slot} {σ : St} {tv : List V} {H G : Hp} {as bs : List Addr} (z : St0 B S T σ tv H G as bs) {p : Addr} (hp : H p = none) {u v : V} {t : α} {r : β} (h1 : Dq G u (Datum.toD t)) (h2 : Dq G v (Datum.toD r)) : Sta B S (.val (t, r) :: T) σ (.ref p :: tv) (upd H p (.tup [u, v])) :=
  z.newG hp (.val (show Dq _ _ (PyData.tuple [Datum.toD t, Datum.toD r]) from .tup upd_same (.cons (dq_mono (ex_upd (Ex.refl G) (ex_none z.sub hp)) h1) (.cons (dq_mono (ex_upd (Ex.refl G) (ex_none z.sub hp)) h2) .nil))))
theorem sl_dq {α : Type} [DecidableEq α] [Datum α] {G H : Hp} {u : V} {as : List Addr} {t : α} (h : SlI G H (.val t) u as) : Dq G u (Datum.toD t) := by
  cases h with
  | val h => exact h
theorem ji_enum {α : Type} [DecidableEq α] [Datum α] {xs : List α} {ok : Stt → Prop} {p tpos : Pos} {elts : List Expr} {kk : Nat} (hm : X.mg "enumerate" = none) (ha : JE X B S e S1 x) (hl : Lv X.K B S1 x (xs.map Slot.val)) (hok : ∀ S, ok S → Lv X.K B S x (xs.map Slot.val)) (hg : Gl X "enumerate" := by rfl) (hst : starEach [e] X.env = (false, eval e X.env) :: starEach [] X.env := by rfl) (hs : starEach [e] X.env = [(false, eval e X.env)] := by rfl) :
    JI X B S (.Tuple elts kk tpos) (.Call (.Name "enumerate" p) [e] [] pos) S1 [x] ((enu 0 xs).map Slot.val) ok := fun T tv σ H R h q =>
  pi1 (pi_enum hg hm pa0 hs) (ja_cons ha ja_nil hst _ _ _ _ _ h fun vs H1 hl' h1 => by
    obtain ⟨v, rfl⟩ : ∃ v, vs = [v] := match vs, hl' with | [v], _ => ⟨v, rfl⟩
    obtain ⟨G, as, bs, z⟩ := id h1
    obtain ⟨p, vs, rfl, hr, hss⟩ := hl z
    refine ⟨p, vs, rfl, hr, q (Ite X.K p) [.ref p] H1 rfl h1 ⟨fun S T σ tv H i s hS hi h => ?_, fun S T σ tv H hS h => ?_⟩⟩
    · obtain ⟨G, as, bs, z⟩ := id h
      obtain ⟨p', vs', e, hr', hss'⟩ := hok S hS z
      cases e
      rw [List.getElem?_map] at hi
      cases qe : (enu 0 xs)[i]? with
      | none => rw [qe] at hi; cases hi
      | some pr =>
        rw [qe] at hi
        cases hi
        obtain ⟨h1, h2⟩ := enu_get 0 xs i qe
        obtain ⟨u, hu, su⟩ := hss'.get i (show (xs.map Slot.val)[i]? = some (Slot.val pr.2) by rw [List.getElem?_map, h2] <;> rfl)
        refine ⟨⟨vs', u, hr', hu⟩, fun v H' hy => ?_⟩
        obtain ⟨T', x', rfl, hT, rfl, hy⟩ := hy
        have e := hy vs' (hr')
        rw [hu] at e
        cases e
        have ei : pr = (((i : Nat) : Int), pr.2) := Prod.ext (by rw [h1]; simp) rfl
        rw [ei]
        exact push_pair z hT (.int _) (sl_dq su)
    · obtain ⟨G, as, bs, z⟩ := id h
      obtain ⟨p', vs', e, hr', hss'⟩ := hok S hS z
      cases e
      refine ⟨vs', hr', Nat.le_of_eq ?_⟩
      have := hss'.len
      rw [List.length_map] at this ⊢
      rw [enu_len]
      exact this.symm)
/-! ### targets that are tuples -/
structure tgsOf (X : Cx) (ts : List Expr) (vs : List V) (σ : St) (H : Hp) (Q : St → Hp → Prop) : Prop where
  run : ∀ pins s us, Inv X pins σ H s → Vals vs us → wpAny (model X.prog X.w) X.A (assignInOrder ((assignEach ts X.env).map (·.2)) us) (fun _ s' => ∃ σ' H', Inv X pins σ' H' s' ∧ Q σ' H') X.xe s
theorem pgs0 {ts : List Expr} : PGs X ts (tgsOf X ts) := ⟨fun pins s _ _ _ us _ I r h => h.run pins s us I r⟩
theorem pgs1 {ts : List Expr} {t : TGs} (h : PGs X ts t) {vs : List V} {σ : St} {H : Hp} {Q : St → Hp → Prop} (q : t vs σ H Q) : tgsOf X ts vs σ H Q := ⟨fun pins s us I r => h.run pins s σ H vs us Q I r q⟩
def JGs (X : Cx) (B : Base) (S : Stt) (ts : List Expr) (xs : List Slot) (S' : Stt) (ws : List Nat) : Prop := ∀ T tv σ vs H Q, vs.length = xs.length → Sta B S (xs ++ T) σ (vs ++ tv) H → (∀ σ' H', Chg ws σ σ' → Sta B S' T σ' tv H' → Q σ' H') → tgsOf X ts vs σ H Q
theorem jgs_nil : JGs X B S [] [] S [] := fun T tv σ vs H Q hl h q => match vs, hl with
  | [], _ => pgs1 pgs_nil ⟨rfl, q _ _ (Chg.refl _ _) h⟩
theorem jgs_cons {ts : List Expr} {xs : List Slot} {ws ws' : List Nat} (h1 : JG X B S tg x S1 ws) (h2 : JGs X B S1 ts xs S2 ws') (hs : (assignEach (tg :: ts) X.env).map (·.2) = assign tg X.env :: (assignEach ts X.env).map (·.2) := by rfl) : JGs X B S (tg :: ts) (x :: xs) S2 (ws ++ ws') := fun T tv σ vs H Q hl h q => match vs, hl with
  | v :: vs, hl => pgs1 (pgs_cons pg0 pgs0 hs) ⟨v, vs, rfl, h1 _ _ _ _ _ _ h fun σ' H' c g => h2 _ _ _ _ _ _ (Nat.succ.inj hl) g fun σ2 H2 c2 g2 => q σ2 H2 (c.app c2) g2⟩
/-- a tuple's items -/
theorem jg_tup {es : List Expr} {kk : Nat} {α : Type} [DecidableEq α] [Datum α] {t : α} {ds : List PyData} {xs : List Slot} (ht : Datum.toD t = .tuple ds) (hx : ∀ {G H : Hp} {vs : List V}, DqAll G vs ds → SsI G H xs vs []) {ws : List Nat} (h : JGs X B S es xs S1 ws) (hc : X.calm = true := by rfl) (hn : (assignEach es X.env).length = xs.length := by rfl) (hst : (assignEach es X.env).findIdx? (·.1) = none := by rfl) : JG X B S (.Tuple es kk pos) (.val t) S1 ws := fun T tv σ v H Q hs q =>
  pg1 (pg_tup hc pgs0 rfl hst) (by
    obtain ⟨G, as, bs, z⟩ := hs
    obtain ⟨a1, a2, rfl, g, z'⟩ := z.pop
    cases g with
    | val g =>
      rw [ht] at g
      cases g with
      | @tup p vs _ hp ha =>
        have hss : SsI G H xs vs [] := hx ha
        refine ⟨p, vs, rfl, .of (z.sub _ _ hp), by rw [hn, hss.len], ?_⟩
        exact h _ _ _ _ _ _ hss.len.symm ⟨G, [] ++ a2, bs, hss.app z'.tmp, z'.cel, z'.slo, z'.nod, z'.fre, z'.gro, z'.new, z'.sub, z'.frm⟩ q)
theorem jg_pair {e1 e2 : Expr} {kk : Nat} {α β : Type} [DecidableEq α] [Datum α] [DecidableEq β] [Datum β] {t : α × β} {ws : List Nat} (h : JGs X B S [e1, e2] [.val t.1, .val t.2] S1 ws) (hc : X.calm = true := by rfl) (hn : (assignEach [e1, e2] X.env).length = 2 := by rfl) (hst : (assignEach [e1, e2] X.env).findIdx? (·.1) = none := by rfl) : JG X B S (.Tuple [e1, e2] kk pos) (.val t) S1 ws :=
  jg_tup (ds := [Datum.toD t.1, Datum.toD t.2]) rfl (fun h => by
    cases h with
    | cons h1 h2 =>
      cases h2 with
      | cons h2 h3 =>
        cases h3
        exact .cons (as := []) (.val h1) (.cons (as := []) (.val h2) .nil)) h hc hn hst
/-! ### comprehensions -/
/-- within the block: the same context but the frame -/
abbrev Blk (X : Cx) (scope : Scope) (P : Cx → Prop) : Prop := ∀ (s : Shared) (H : Hp) (C : Addr) (cl : List (Str × Addr)) (fp : List Addr), P (X.blk s H scope (compEnvC scope cl C X.env) fp)
/-- tests -/
def ttsOf (X : Cx) (ifs : List Expr) : TT := fun σ H Q => ∃ t, PTs X ifs t ∧ t σ H Q
def JTs (X : Cx) (B : Base) (S : Stt) (ifs : List Expr) (S' : Stt) (p : Bool) : Prop := ∀ T tv σ H (Q : Bool → Hp → Prop), Sta B S T σ tv H → (∀ H', Sta B S' T σ tv H' → Q p H') → ∃ t, PTs X ifs t ∧ t σ H Q
theorem jts_nil : JTs X B S [] S true := fun T tv σ H Q hs q => ⟨_, pts_nil, q H hs⟩
theorem jts_one {c : Expr} {p : Bool} (h : JT X B S c S1 p) : JTs X B S [c] S1 p := fun T tv σ H Q hs q => ⟨_, pts_one pt0, h _ _ _ _ _ hs q⟩
def AnyAt (sl : List Slot) (vs : List Nat) : Prop := ∀ i ∈ vs, ∀ s, sl[i]? = some s → s = .any
theorem SgI.wip {G : Hp} {sl : List Slot} {σ : St} {vs : List Nat} (h : AnyAt sl vs) (g : SgI G sl σ) : SgI G sl (wipe σ vs) := by
  refine ⟨by rw [wipe_length]; exact g.1, fun i s hs => ?_⟩
  by_cases hi : i ∈ vs
  · have e := h i hi s hs
    subst e
    have hlt := (List.getElem?_eq_some_iff.mp hs).1
    exact ⟨(wipe σ vs)[i]'(by rw [wipe_length, ← g.1]; exact hlt), List.getElem?_eq_getElem _, trivial⟩
  · rw [wipe_get, if_neg hi]
    exact g.2 i s hs
theorem SgI.unwip {G : Hp} {sl : List Slot} {σ : St} {vs : List Nat} (h : AnyAt sl vs) (g : SgI G sl (wipe σ vs)) : SgI G sl σ := by
  refine ⟨by rw [← wipe_length σ vs]; exact g.1, fun i s hs => ?_⟩
  by_cases hi : i ∈ vs
  · have e := h i hi s hs
    subst e
    have hlt := (List.getElem?_eq_some_iff.mp hs).1
    exact ⟨σ[i]'(by rw [← wipe_length σ vs, ← g.1]; exact hlt), List.getElem?_eq_getElem _, trivial⟩
  · have := g.2 i s hs
    rw [wipe_get, if_neg hi] at this
    exact this
theorem Sta.wip {T : List Slot} {σ : St} {tv : List V} {H : Hp} {vs : List Nat} (h : AnyAt S.sl vs) (g : Sta B S T σ tv H) : Sta B S T (wipe σ vs) tv H := by
  obtain ⟨G, as, bs, z1, z2, z3, z⟩ := g
  exact ⟨G, as, bs, z1, z2, z3.wip h, by assumption, by assumption, by assumption, by assumption, by assumption, by assumption⟩
theorem Sta.unwip {T : List Slot} {σ : St} {tv : List V} {H : Hp} {vs : List Nat} (h : AnyAt S.sl vs) (g : Sta B S T (wipe σ vs) tv H) : Sta B S T σ tv H := by
  obtain ⟨G, as, bs, z1, z2, z3, z4, z5, z6, z7, z8, z9⟩ := g
  exact ⟨G, as, bs, z1, z2, z3.unwip h, z4, z5, z6, z7, z8, z9⟩
def cmpM {ι α β : Type} (f : ι → α → Option (Option β × ι)) : List α → ι → Option (List β × ι)
  | [], s => some ([], s)
  | x :: xs, s => (f s x).bind fun p => (cmpM f xs p.2).bind fun q => some (match p.1 with
    | some y => (y :: q.1, q.2)
    | none => q)
/-- one more item at the end of a list that is laid on top -/
theorem Sta.appT {T : List Slot} {σ : St} {tv : List V} {H : Hp} {acc : List Slot} {v : V} {D : Addr} (h : Sta B S (y :: .own (.lst acc) :: T) σ (v :: .ref D :: tv) H) : ∃ va, H D = some (.lst va) ∧ va.length = acc.length ∧ Sta B S (.own (.lst (acc ++ [y])) :: T) σ (.ref D :: tv) (upd H D (.lst (va ++ [v]))) := by
  obtain ⟨G, as, bs, z⟩ := h
  obtain ⟨a1, a2, rfl, g1, z1⟩ := z.pop
  obtain ⟨a3, a4, rfl, g2, z2⟩ := z1.pop
  cases g2 with
  | @own _ _ o m hD hc =>
    cases hc with
    | @lst _ va _ hs =>
      refine ⟨va, hD, hs.len.symm, ?_⟩
      have nd := z.nod
      have pm : ((D :: (m ++ a1)) ++ a4 ++ bs).Perm (a1 ++ ((D :: m) ++ a4) ++ bs) := by
        refine List.Perm.append_right _ ?_
        have e1 : ((D :: (m ++ a1)) ++ a4).Perm ((a1 ++ (D :: m)) ++ a4) := List.Perm.append_right _ (by
          have : ((D :: m) ++ a1).Perm (a1 ++ (D :: m)) := List.perm_append_comm
          exact this)
        rw [List.append_assoc a1] at e1
        exact e1
      have nd2 := pm.nodup_iff.mpr nd
      have nD : ∀ a ∈ m ++ a1 ++ a4 ++ bs, a ≠ D := fun a ha e => by
        subst e
        have : ((a :: (m ++ a1)) ++ a4 ++ bs) = a :: (m ++ a1 ++ a4 ++ bs) := by simp
        rw [this] at nd2
        exact (List.nodup_cons.mp nd2).1 ha
      have fr := fun a ha => z.fre a (pm.mem_iff.mp ha)
      have hG : G D = none := (fr D (by simp)).1
      have hF : B.F D = none := (fr D (by simp)).2
      have k1 : SsI G (upd H D (.lst (va ++ [v]))) acc va m := hs.mono (Ex.refl G) fun a ha => upd_ne (nD a (by simp [ha]))
      have k2 : SlI G (upd H D (.lst (va ++ [v]))) y v a1 := g1.mono (Ex.refl G) fun a ha => upd_ne (nD a (by simp [ha]))
      exact ⟨G, (D :: (m ++ a1)) ++ a4, bs, .cons (.own upd_same (.lst (k1.app (SsI.one k2)))) (z2.tmp.mono (Ex.refl G) fun a ha => upd_ne (nD a (by simp [ha]))), z2.cel.mono (Ex.refl G) fun a ha => upd_ne (nD a (by simp [ha])), z.slo, nd2, fr, z.gro, z.new,
        fun a u ha => by rw [upd_ne (by intro e; subst e; rw [hG] at ha; cases ha)]; exact z.sub a u ha, fun a u ha => by rw [upd_ne (by intro e; subst e; rw [hF] at ha; cases ha)]; exact z.frm a u ha⟩
abbrev Le (B : Base) (S S' : Stt) : Prop := ∀ T tv σ H, Sta B S T σ tv H → Sta B S' T σ tv H
theorem lc_t {ι α β : Type} [DecidableEq α] [Datum α] {xs : List α} {f : ι → α → Option (Option β × ι)} {el : β → Slot} {Sf : ι → Stt} {Sb : ι → α → Stt} {s0 sE : ι} {ys : List β} {iter elt : Expr} {ifs : List Expr} {scope : Scope} {own : List (Str × Nat)} {zs : List Slot} {ok : Stt → Prop} {ws : List Nat}
    (hf : cmpM f xs s0 = some (ys, sE)) (hlen : xs.length ≤ 16777216) (hN : X.N.Nodup) (hbk : BlkOk X.N X.env.scope scope own)
    (hi : JI X B S tg iter S1 zs (xs.map Slot.val) ok) (h0 : Le B S1 (Sf s0)) (hok : ∀ s, ok (Sf s)) (hv : ∀ s, AnyAt (Sf s).sl (own.map (·.2))) (hws : ∀ i ∈ ws, i ∈ own.map (·.2))
    (hg : ∀ s x, Blk X scope fun Y => JG Y B (Sf s) tg (.val x) (Sb s x) ws)
    (hb : ∀ s x o s', x ∈ xs → f s x = some (o, s') → ∃ (p : Bool) (St : Stt), (Blk X scope fun Y => JTs Y B (Sb s x) ifs St p) ∧ (p = true → ∃ y Se, o = some y ∧ (Blk X scope fun Y => JE Y B St elt Se (el y)) ∧ Le B Se (Sf s')) ∧ (p = false → o = none ∧ Le B St (Sf s')))
    {T : List Slot} {σ : St} {tv : List V} {H : Hp} {Q : VK} (h : Sta B S T σ tv H) (q : ∀ v H', Sta B (Sf sE) (.own (.lst (ys.map el)) :: T) σ (v :: tv) H' → Q v H') : tLc (tiOf X tg iter) (fun v σ H Q => Blk X scope fun Y => tgOf Y tg v σ H Q) (fun σ H Q => Blk X scope fun Y => ttsOf Y ifs σ H Q) (fun σ H Q => Blk X scope fun Y => teOf Y elt σ H Q) (own.map (·.2)) σ H Q :=
  hi _ _ _ _ _ h fun J zv H1 hl h1 wk => fun Dd hD => by
      have hS0 := h0 _ _ _ _ h1
      obtain ⟨G0, as0, bs0, z0⟩ := id hS0
      have start : Sta B (Sf s0) (.own (.lst ([].map el)) :: (zs ++ T)) σ (.ref Dd :: (zv ++ tv)) (upd H1 Dd (.lst [])) := z0.newO hD (.lst .nil)
      refine ⟨fun i m H => m = xs.length - i ∧ i ≤ xs.length ∧ ∃ s acc more, cmpM f (xs.drop i) s = some (more, sE) ∧ ys = acc ++ more ∧ acc.length ≤ i ∧ Sta B (Sf s) (.own (.lst (acc.map el)) :: (zs ++ T)) σ (.ref Dd :: (zv ++ tv)) H, ⟨xs.length, by simp, Nat.zero_le _, s0, [], ys, hf, rfl, Nat.zero_le _, start⟩, ?_⟩
      rintro i m H ⟨rfl, hle, s, acc, more, hm, hys, hacc, hS⟩
      have rotz : ∀ {S : Stt} {s : Slot} {u : V} {σ : St} {H : Hp}, Sta B S (s :: (zs ++ T)) σ (u :: (zv ++ tv)) H → Sta B S (zs ++ s :: T) σ (zv ++ u :: tv) H := fun {S s u σ H} h => by
        obtain ⟨G, as, bs, z⟩ := h
        obtain ⟨a1, a2, rfl, g1, z1⟩ := z.pop
        obtain ⟨a3, a4, rfl, g2, z2⟩ := z1.split hl.symm
        have pm : (a3 ++ (a1 ++ a4) ++ bs).Perm (a1 ++ (a3 ++ a4) ++ bs) := List.Perm.append_right _ (by
          rw [← List.append_assoc, ← List.append_assoc]
          exact List.Perm.append_right _ List.perm_append_comm)
        exact ⟨G, a3 ++ (a1 ++ a4), bs, g2.app (.cons g1 z2.tmp), z.cel, z.slo, pm.nodup_iff.mpr z.nod, fun a ha => z.fre a (pm.mem_iff.mp ha), z.gro, z.new, z.sub, z.frm⟩
      by_cases hlt : i < xs.length
      · rw [List.drop_eq_getElem_cons hlt] at hm
        refine bnd hm fun pr e1 e2 => bnd e2 fun qr e3 e4 => .inr ?_
        obtain ⟨o, s'⟩ := pr
        obtain ⟨more', sE'⟩ := qr
        have hx : (xs.map Slot.val)[i]? = some (Slot.val xs[i]) := by rw [List.getElem?_map, List.getElem?_eq_getElem hlt] <;> rfl
        obtain ⟨w1, w2⟩ := wk.go _ _ _ _ _ i _ (hok s) hx (rotz (hS.wip (hv s)))
        obtain ⟨w1', _⟩ := wk.go _ _ _ _ _ i _ (hok s) hx (rotz hS)
        obtain ⟨p, St, hT, hp1, hp0⟩ := hb s xs[i] o s' (List.getElem_mem hlt) e1
        refine ⟨w1', fun H => i < xs.length ∧ ∃ s acc more, cmpM f (xs.drop (i + 1)) s = some (more, sE) ∧ ys = acc ++ more ∧ acc.length ≤ i + 1 ∧ Sta B (Sf s) (.own (.lst (acc.map el)) :: (zs ++ T)) σ (.ref Dd :: (zv ++ tv)) H, fun H' ⟨_, g⟩ => ⟨xs.length - (i + 1), by omega, rfl, hlt, g⟩, fun v H' hy => ?_⟩
        have hS2 := w2 v H' hy
        -- the item on top, then the list that grows
        have hS3 : Sta B (Sf s) (.val xs[i] :: .own (.lst (acc.map el)) :: (zs ++ T)) (wipe σ (own.map (·.2))) (v :: .ref Dd :: (zv ++ tv)) H' := by
          obtain ⟨G, as, bs, z⟩ := hS2
          obtain ⟨a1, a2, rfl, g1, z1⟩ := z.pop
          obtain ⟨a3, a4, rfl, g2, z2⟩ := z1.split hl.symm
          obtain ⟨a5, a6, rfl, g3, z3⟩ := z2.pop
          have pm : (a1 ++ (a5 ++ (a3 ++ a6)) ++ bs).Perm (a1 ++ (a3 ++ (a5 ++ a6)) ++ bs) := List.Perm.append_right _ (List.Perm.append_left _ (by
            rw [← List.append_assoc, ← List.append_assoc]
            exact List.Perm.append_right _ List.perm_append_comm))
          exact ⟨G, a1 ++ (a5 ++ (a3 ++ a6)), bs, .cons g1 (.cons g3 (g2.app z3.tmp)), z.cel, z.slo, pm.nodup_iff.mpr z.nod, fun a ha => z.fre a (pm.mem_iff.mp ha), z.gro, z.new, z.sub, z.frm⟩
        intro s1 H01 C1 cl1 fp1
        refine hg s xs[i] s1 H01 C1 cl1 fp1 _ _ _ _ _ _ hS3 fun σ2 H2 chg h2 => ⟨?_, ?_⟩
        · rw [chg _ hws, wipe_wipe]
        · have back : ∀ {S : Stt} {T : List Slot} {tv : List V} {H : Hp} {s : ι}, Sta B S T σ2 tv H → Le B S (Sf s) → Sta B (Sf s) T σ tv H := fun {S T tv H s} h hle => by
            have h3 := (hle _ _ _ _ h).wip (hv s)
            rw [chg _ hws, wipe_wipe] at h3
            exact h3.unwip (hv s)
          intro s2 H02 C2 cl2 fp2
          refine hT s2 H02 C2 cl2 fp2 _ _ _ _ _ h2 fun H3 h3 => ?_
          cases p with
          | true =>
            rw [if_pos rfl]
            obtain ⟨y, Se, rfl, he, hle'⟩ := hp1 rfl
            intro s3 H03 C3 cl3 fp3
            refine he s3 H03 C3 cl3 fp3 _ _ _ _ _ h3 fun w H4 h4 => ?_
            obtain ⟨va, hDv, hvl, h5⟩ := Sta.appT h4
            refine ⟨va, hDv, ?_, hlt, s', acc ++ [y], more', ?_, ?_, ?_, ?_⟩
            · rw [hvl, List.length_map]
              exact Nat.lt_of_lt_of_le (Nat.lt_of_le_of_lt hacc hlt) hlen
            · have e5 : (y :: more', sE') = (more, sE) := Option.some.inj e4
              cases e5
              exact e3
            · have e5 : (y :: more', sE') = (more, sE) := Option.some.inj e4
              cases e5
              rw [hys, List.append_assoc]
              rfl
            · rw [List.length_append]
              exact Nat.succ_le_succ hacc
            · rw [List.map_append]
              exact back h5 hle'
          | false =>
            rw [if_neg (by decide)]
            obtain ⟨rfl, hle'⟩ := hp0 rfl
            have e5 : (more', sE') = (more, sE) := Option.some.inj e4
            cases e5
            exact ⟨hlt, s', acc, _, e3, hys, Nat.le_succ_of_le hacc, back h3 hle'⟩
      · have e : i = xs.length := by omega
        subst e
        rw [List.drop_length] at hm
        have e5 : (([] : List β), s) = (more, sE) := Option.some.inj hm
        cases e5
        have st := wk.stop _ _ _ _ _ (hok _) (rotz hS)
        rw [List.length_map] at st
        rw [List.append_nil] at hys
        subst hys
        refine .inl ⟨st, q _ _ ?_⟩
        obtain ⟨G, as, bs, z⟩ := hS
        obtain ⟨a1, a2, rfl, g1, z1⟩ := z.pop
        obtain ⟨a3, a4, rfl, g2, z2⟩ := z1.split hl.symm
        have sub : (a1 ++ a4 ++ bs).Sublist (a1 ++ (a3 ++ a4) ++ bs) := ((List.Sublist.refl a1).append (List.sublist_append_right a3 a4)).append (List.Sublist.refl bs)
        exact ⟨G, a1 ++ a4, bs, .cons g1 z2.tmp, z.cel, z.slo, sub.nodup z.nod, fun a ha => z.fre a (sub.mem ha), z.gro, z.new, z.sub, z.frm⟩
theorem je_lc {ι α β : Type} [DecidableEq α] [Datum α] {xs : List α} {f : ι → α → Option (Option β × ι)} {el : β → Slot} {Sf : ι → Stt} {Sb : ι → α → Stt} {s0 sE : ι} {ys : List β} {iter elt : Expr} {ifs : List Expr} {scope : Scope} {own : List (Str × Nat)} {zs : List Slot} {ok : Stt → Prop} {ws : List Nat}
    (hf : cmpM f xs s0 = some (ys, sE)) (hlen : xs.length ≤ 16777216) (hN : X.N.Nodup) (hbk : BlkOk X.N X.env.scope scope own)
    (hi : JI X B S tg iter S1 zs (xs.map Slot.val) ok) (h0 : Le B S1 (Sf s0)) (hok : ∀ s, ok (Sf s)) (hv : ∀ s, AnyAt (Sf s).sl (own.map (·.2))) (hws : ∀ i ∈ ws, i ∈ own.map (·.2))
    (hg : ∀ s x, Blk X scope fun Y => JG Y B (Sf s) tg (.val x) (Sb s x) ws)
    (hb : ∀ s x o s', x ∈ xs → f s x = some (o, s') → ∃ (p : Bool) (St : Stt), (Blk X scope fun Y => JTs Y B (Sb s x) ifs St p) ∧ (p = true → ∃ y Se, o = some y ∧ (Blk X scope fun Y => JE Y B St elt Se (el y)) ∧ Le B Se (Sf s')) ∧ (p = false → o = none ∧ Le B St (Sf s')))
    (hc : X.calm = true := by rfl) (hs : ∀ x, foldedSetIterable iter X.env x = pure x := by intro _; rfl) : JE X B S (.ListComp elt [⟨tg, iter, ifs, 0⟩] scope pos) (Sf sE) (.own (.lst (ys.map el))) := fun T tv σ H Q h q =>
  pe1 (pe_lc (g := (fun v σ H Q => Blk X scope fun Y => tgOf Y tg v σ H Q)) (tt := (fun σ H Q => Blk X scope fun Y => ttsOf Y ifs σ H Q)) (te := (fun σ H Q => Blk X scope fun Y => teOf Y elt σ H Q)) hc hN pi0 hbk (fun s H C cl fp => ⟨fun pins s' σ H' v u Q I r h => (h s H C cl fp).run pins s' u I r⟩) (fun s H C cl fp => ⟨fun pins s' σ H' Q I h => let ⟨_, hp, h'⟩ := h s H C cl fp; hp.run pins s' σ H' Q I h'⟩) (fun s H C cl fp => ⟨fun pins s' σ H' Q I h => (h s H C cl fp).run pins s' I⟩) hs) (lc_t hf hlen hN hbk hi h0 hok hv hws hg hb h q)
theorem js_newLc (j : Nat) {n : Str} {pos2 : Pos} {ι α β : Type} [DecidableEq α] [Datum α] {xs : List α} {f : ι → α → Option (Option β × ι)} {el : β → Slot} {Sf : ι → Stt} {Sb : ι → α → Stt} {s0 sE : ι} {ys : List β} {iter elt : Expr} {ifs : List Expr} {scope : Scope} {own : List (Str × Nat)} {zs : List Slot} {ok : Stt → Prop} {ws : List Nat}
    (hf : cmpM f xs s0 = some (ys, sE)) (hlen : xs.length ≤ 16777216) (hN : X.N.Nodup) (hbk : BlkOk X.N X.env.scope scope own)
    (hi : JI X B S tg iter S1 zs (xs.map Slot.val) ok) (h0 : Le B S1 (Sf s0)) (hok : ∀ s, ok (Sf s)) (hv : ∀ s, AnyAt (Sf s).sl (own.map (·.2))) (hws : ∀ i ∈ ws, i ∈ own.map (·.2))
    (hg : ∀ s x, Blk X scope fun Y => JG Y B (Sf s) tg (.val x) (Sb s x) ws)
    (hb : ∀ s x o s', x ∈ xs → f s x = some (o, s') → ∃ (p : Bool) (St : Stt), (Blk X scope fun Y => JTs Y B (Sb s x) ifs St p) ∧ (p = true → ∃ y Se, o = some y ∧ (Blk X scope fun Y => JE Y B St elt Se (el y)) ∧ Le B Se (Sf s')) ∧ (p = false → o = none ∧ Le B St (Sf s')))
    (k : ∀ p, JS X B ⟨(Sf sE).sl.set j (.v (.ref p)), (Sf sE).cs ++ [(p, .lst (ys.map el))]⟩ rest D) (hc : X.calm = true := by rfl) (hs : ∀ x, foldedSetIterable iter X.env x = pure x := by intro _; rfl) (hj : X.N[j]? = some n := by rfl) (hyl : X.env.scope.names.lookup n = some .local := by rfl) (hsw : swapsWith (.ListComp elt [⟨tg, iter, ifs, 0⟩] scope pos) (some (.Name n pos2)) apos.line X.env = pure true := by rfl) : JS X B S (.Assign [.Name n pos2] (.ListComp elt [⟨tg, iter, ifs, 0⟩] scope pos) apos :: rest) D :=
  js_step (ps_setLc (g := (fun v σ H Q => Blk X scope fun Y => tgOf Y tg v σ H Q)) (tt := (fun σ H Q => Blk X scope fun Y => ttsOf Y ifs σ H Q)) (te := (fun σ H Q => Blk X scope fun Y => teOf Y elt σ H Q)) hc hN hj hyl hsw pi0 hbk (fun s H C cl fp => ⟨fun pins s' σ H' v u Q I r h => (h s H C cl fp).run pins s' u I r⟩) (fun s H C cl fp => ⟨fun pins s' σ H' Q I h => let ⟨_, hp, h'⟩ := h s H C cl fp; hp.run pins s' σ H' Q I h'⟩) (fun s H C cl fp => ⟨fun pins s' σ H' Q I h => (h s H C cl fp).run pins s' I⟩) hs) fun T tv σ H h => lc_t hf hlen hN hbk hi h0 hok hv hws hg hb h fun v H1 h1 => by
    obtain ⟨p, rfl, h2⟩ := h1.name
    exact k p _ _ _ _ (h2.set rfl j)
theorem js_setLc (j : Nat) {n : Str} {pos2 : Pos} {z : Slot} {ι α β : Type} [DecidableEq α] [Datum α] {xs : List α} {f : ι → α → Option (Option β × ι)} {el : β → Slot} {Sf : ι → Stt} {Sb : ι → α → Stt} {s0 sE : ι} {ys : List β} {iter elt : Expr} {ifs : List Expr} {scope : Scope} {own : List (Str × Nat)} {zs : List Slot} {ok : Stt → Prop} {ws : List Nat}
    (hf : cmpM f xs s0 = some (ys, sE)) (hlen : xs.length ≤ 16777216) (hN : X.N.Nodup) (hbk : BlkOk X.N X.env.scope scope own)
    (hi : JI X B S tg iter S1 zs (xs.map Slot.val) ok) (h0 : Le B S1 (Sf s0)) (hok : ∀ s, ok (Sf s)) (hv : ∀ s, AnyAt (Sf s).sl (own.map (·.2))) (hws : ∀ i ∈ ws, i ∈ own.map (·.2))
    (hg : ∀ s x, Blk X scope fun Y => JG Y B (Sf s) tg (.val x) (Sb s x) ws)
    (hb : ∀ s x o s', x ∈ xs → f s x = some (o, s') → ∃ (p : Bool) (St : Stt), (Blk X scope fun Y => JTs Y B (Sb s x) ifs St p) ∧ (p = true → ∃ y Se, o = some y ∧ (Blk X scope fun Y => JE Y B St elt Se (el y)) ∧ Le B Se (Sf s')) ∧ (p = false → o = none ∧ Le B St (Sf s')))
    (hz : ∀ {T : List Slot} {σ : St} {tv : List V} {v : V} {H : Hp}, Sta B (Sf sE) (.own (.lst (ys.map el)) :: T) σ (v :: tv) H → Sta B (Sf sE) (z :: T) σ (v :: tv) H) (k : JS X B ⟨(Sf sE).sl.set j z, (Sf sE).cs⟩ rest D) (hp : z.plain = true := by rfl) (hc : X.calm = true := by rfl) (hs : ∀ x, foldedSetIterable iter X.env x = pure x := by intro _; rfl) (hj : X.N[j]? = some n := by rfl) (hyl : X.env.scope.names.lookup n = some .local := by rfl) (hsw : swapsWith (.ListComp elt [⟨tg, iter, ifs, 0⟩] scope pos) (some (.Name n pos2)) apos.line X.env = pure true := by rfl) : JS X B S (.Assign [.Name n pos2] (.ListComp elt [⟨tg, iter, ifs, 0⟩] scope pos) apos :: rest) D :=
  js_step (ps_setLc (g := (fun v σ H Q => Blk X scope fun Y => tgOf Y tg v σ H Q)) (tt := (fun σ H Q => Blk X scope fun Y => ttsOf Y ifs σ H Q)) (te := (fun σ H Q => Blk X scope fun Y => teOf Y elt σ H Q)) hc hN hj hyl hsw pi0 hbk (fun s H C cl fp => ⟨fun pins s' σ H' v u Q I r h => (h s H C cl fp).run pins s' u I r⟩) (fun s H C cl fp => ⟨fun pins s' σ H' Q I h => let ⟨_, hp, h'⟩ := h s H C cl fp; hp.run pins s' σ H' Q I h'⟩) (fun s H C cl fp => ⟨fun pins s' σ H' Q I h => (h s H C cl fp).run pins s' I⟩) hs) fun T tv σ H h => lc_t hf hlen hN hbk hi h0 hok hv hws hg hb h fun v H1 h1 => k _ _ _ _ ((hz h1).set hp j)
end
end J
namespace J
universe u w
open PySem L2
open PySem.W (Datum DatumOrd Holds HoldAll T3 T4)
/-! ### cells handed over, and back -/
inductive Pk : List (Addr × Cel) → List (Addr × Cel) → List (Addr × Cel) → Prop where
  | nil {cs : List (Addr × Cel)} : Pk cs [] cs
  | cons (i : Nat) {cs ds cs' : List (Addr × Cel)} {p : Addr} {c : Cel} : cs[i]? = some (p, c) → c ≠ .gone → Pk (cs.set i (p, .gone)) ds cs' → Pk cs ((p, c) :: ds) cs'
inductive Pt : List (Addr × Cel) → List (Addr × Cel) → List (Addr × Cel) → Prop where
  | nil {cs : List (Addr × Cel)} : Pt cs [] cs
  | cons (i : Nat) {cs ds cs' : List (Addr × Cel)} {p q : Addr} {c : Cel} : cs[i]? = some (q, .gone) → Pt (cs.set i (p, c)) ds cs' → Pt cs ((p, c) :: ds) cs'
section
variable {G H : Hp}
theorem CsI.takes : ∀ {cs ds cs' : List (Addr × Cel)} {bs : List Addr}, Pk cs ds cs' → CsI G H cs bs → ∃ b1 b2, CsI G H ds b1 ∧ CsI G H cs' b2 ∧ (b1 ++ b2).Perm bs
  | _, _, _, bs, .nil, h => ⟨[], bs, .nil, h, List.Perm.refl _⟩
  | _, _, _, _, .cons (p := p) i hi hg hk, h => by
    obtain ⟨l, o, m, r, rfl, hp, hc, reb⟩ := h.at i hi hg
    obtain ⟨b1, b2, h1, h2, pm⟩ := CsI.takes hk ((reb (Ex.refl G) fun _ _ => rfl).2 _)
    refine ⟨_, b2, .cons hp hc h1, h2, ?_⟩
    have e1 : ((p :: (m ++ b1)) ++ b2).Perm ((p :: m) ++ (b1 ++ b2)) := by
      rw [List.cons_append, List.append_assoc]
      exact List.Perm.refl _
    have e2 := List.Perm.append_left (p :: m) pm
    have e3 : ((p :: m) ++ (l ++ r)).Perm (l ++ (p :: m) ++ r) := by
      rw [← List.append_assoc]
      exact List.Perm.append_right _ List.perm_append_comm
    exact e1.trans (e2.trans e3)
theorem CsI.put1 : ∀ {cs : List (Addr × Cel)} {bs : List Addr} (i : Nat) {p q : Addr} {c : Cel} {o : HO} {m : List Addr}, CsI G H cs bs → cs[i]? = some (q, .gone) → H p = some o → CeI G H c o m → ∃ b, CsI G H (cs.set i (p, c)) b ∧ b.Perm ((p :: m) ++ bs)
  | [], _, _, _, _, _, _, _, _, e, _, _ => by simp at e
  | (q0, c0) :: cs, bs, 0, p, q, c, o, m, h, e, hp, hc => by
    have e1 := Option.some.inj (show some (q0, c0) = some (q, Cel.gone) from e)
    cases e1
    cases h with
    | gone h => exact ⟨_, .cons hp hc h, List.Perm.refl _⟩
    | cons _ hc' _ => cases hc'
  | (q0, c0) :: cs, bs, i + 1, p, q, c, o, m, h, e, hp, hc => by
    have e1 : cs[i]? = some (q, Cel.gone) := e
    cases h with
    | gone h =>
      obtain ⟨b, h1, pm⟩ := CsI.put1 i h e1 hp hc
      exact ⟨b, .gone h1, pm⟩
    | @cons _ _ o1 as _ bs hp1 hc1 h =>
      obtain ⟨b, h1, pm⟩ := CsI.put1 i h e1 hp hc
      refine ⟨_, .cons hp1 hc1 h1, ?_⟩
      have e2 : (q0 :: (as ++ b)).Perm ((q0 :: as) ++ ((p :: m) ++ bs)) := List.Perm.append_left (q0 :: as) pm
      refine e2.trans ?_
      have e3 : ((q0 :: as) ++ ((p :: m) ++ bs)).Perm ((p :: m) ++ ((q0 :: as) ++ bs)) := by
        rw [← List.append_assoc, ← List.append_assoc]
        exact List.Perm.append_right _ List.perm_append_comm
      exact e3
theorem CsI.puts : ∀ {cs ds cs' : List (Addr × Cel)} {b1 b2 : List Addr}, Pt cs ds cs' → CsI G H cs b2 → CsI G H ds b1 → ∃ b, CsI G H cs' b ∧ b.Perm (b1 ++ b2)
  | _, _, _, _, b2, .nil, h, hd => by cases hd; exact ⟨b2, h, List.Perm.refl _⟩
  | _, _, _, _, b2, .cons (c := c) i hi hk, h, hd => by
    cases hd with
    | gone hd =>
      -- a hole is put back as a hole
      have e : ∀ {cs : List (Addr × Cel)} {bs : List Addr} (i : Nat) {p q : Addr}, CsI G H cs bs → cs[i]? = some (q, .gone) → CsI G H (cs.set i (p, .gone)) bs := fun {cs bs} => by
        induction cs generalizing bs with
        | nil => intro i p q _ e; simp at e
        | cons a cs ih =>
          intro i p q h e
          cases i with
          | zero =>
            have e1 := Option.some.inj (show some a = some (q, Cel.gone) from e)
            subst e1
            cases h with
            | gone h => exact .gone h
            | cons _ hc _ => cases hc
          | succ i =>
            cases h with
            | gone h => exact .gone (ih i h e)
            | cons h1 h2 h => exact .cons h1 h2 (ih i h e)
      exact CsI.puts hk (e i h hi) hd
    | @cons p _ o m _ bs hp hc hd =>
      obtain ⟨b, h1, pm⟩ := CsI.put1 i h hi hp hc
      obtain ⟨b', h2, pm2⟩ := CsI.puts hk h1 hd
      refine ⟨b', h2, pm2.trans ?_⟩
      have e1 := List.Perm.append_left bs pm
      refine e1.trans ?_
      rw [← List.append_assoc]
      refine List.Perm.append_right _ ?_
      exact List.perm_append_comm
end
/-- the promise of a def: for each g that meets pre, arguments and cells; handed back: res, the cells -/
structure FS (γ : Type) : Type 1 where
  pre : γ → Prop := fun _ => True
  preG : γ → Hp → Prop := fun _ _ => True
  args : γ → List Slot
  cells : γ → List (Addr × Cel) := fun _ => []
  res : γ → Slot
  cells' : γ → List (Addr × Cel) := fun _ => []
def FS.sp {γ : Type} (f : FS γ) : Sp := fun vs H Q _ => ∃ (g : γ) (B : Base), f.pre g ∧ f.preG g B.G ∧ Sta B ⟨[], f.cells g⟩ (f.args g) [] vs H ∧ ∀ v H', Out B (f.res g) (f.cells' g) v H' → Q v H'
/-- from a state: the def's promise may be asked -/
theorem sp_of {γ : Type} (f : FS γ) {B : Base} {S : Stt} {xs T : List Slot} {σ : St} {vs tv : List V} {H : Hp} {cs1 cs2 : List (Addr × Cel)} {Q : VK} {E : XK} (g : γ) (hpre : f.pre g) (hG : ∀ G', Ex B.G G' → f.preG g G') (ha : f.args g = xs) (hl : vs.length = xs.length) (hk : Pk S.cs (f.cells g) cs1) (hb : Pt cs1 (f.cells' g) cs2)
    (hs : Sta B S (xs ++ T) σ (vs ++ tv) H) (q : ∀ w H', Sta B ⟨S.sl, cs2⟩ (f.res g :: T) σ (w :: tv) H' → Q w H') : f.sp vs H Q E := by
  obtain ⟨G, as, bs, z⟩ := hs
  obtain ⟨a1, a2, rfl, g1, z'⟩ := z.split hl.symm
  obtain ⟨b1, b2, c1, c2, pm⟩ := CsI.takes hk z.cel
  have nd : (a1 ++ a2 ++ (b1 ++ b2)).Nodup := (List.Perm.append_left _ pm).nodup_iff.mpr z.nod
  have pm2 : ((a1 ++ b1) ++ (a2 ++ b2)).Perm (a1 ++ a2 ++ (b1 ++ b2)) := by
    rw [List.append_assoc, List.append_assoc]
    refine List.Perm.append_left _ ?_
    rw [← List.append_assoc, ← List.append_assoc]
    exact List.Perm.append_right _ List.perm_append_comm
  have nd2 := pm2.nodup_iff.mpr nd
  have fr : ∀ a ∈ (a1 ++ b1) ++ (a2 ++ b2), G a = none ∧ B.F a = none := fun a ha => z.fre a ((List.Perm.append_left _ pm).mem_iff.mp (pm2.mem_iff.mp ha))
  have dis := (List.nodup_append.mp nd2).2.2
  have nt2 : ∀ a ∈ a2 ++ b2, ∃ o, H a = some o ∧ NT o := fun a ha => (List.mem_append.mp ha).elim (fun h => z'.tmp.nt a h) fun h => c2.nt a h
  have def2 : ∀ a ∈ a2 ++ b2, ∃ o, H a = some o := fun a ha => (List.mem_append.mp ha).elim (fun h => z'.tmp.def a h) fun h => c2.def a h
  refine ⟨g, ⟨G, fun a => if a ∈ a2 ++ b2 then H a else B.F a⟩, hpre, hG G z.gro, ?_, fun v H' ho => ?_⟩
  · rw [ha]
    refine ⟨G, a1, b1, g1, c1, ⟨rfl, fun i s hs => by simp at hs⟩, (List.nodup_append.mp nd2).1, fun a ha => ⟨(fr a (List.mem_append_left _ ha)).1, ?_⟩, Ex.refl G, fun a o h => .inl h, z.sub, fun a o h => ?_⟩
    · show (if a ∈ a2 ++ b2 then H a else B.F a) = none
      rw [if_neg (fun h => dis a ha a h rfl)]
      exact (fr a (List.mem_append_left _ ha)).2
    · have h' : (if a ∈ a2 ++ b2 then H a else B.F a) = some o := h
      by_cases hm : a ∈ a2 ++ b2
      · rw [if_pos hm] at h'; exact h'
      · rw [if_neg hm] at h'; exact z.frm a o h'
  · obtain ⟨G', as', bs', y⟩ := ho
    have keep : ∀ a ∈ a2 ++ b2, H' a = H a := fun a ha => by
      obtain ⟨o, e⟩ := def2 a ha
      rw [e]
      exact y.frm a o (show (if a ∈ a2 ++ b2 then H a else B.F a) = some o by rw [if_pos ha]; exact e)
    have eg : Ex G G' := y.gro
    have y1 := y.tmp
    cases y1 with
    | @cons _ _ r1 _ _ r2 s1 s2 =>
      cases s2
      have y1' : SsI G' H' (f.res g :: T) (v :: tv) (r1 ++ a2) := .cons s1 (z'.tmp.mono eg fun a ha => keep a (List.mem_append_left _ ha))
      obtain ⟨b, cb, pb⟩ := CsI.puts hb (c2.mono eg fun a ha => keep a (List.mem_append_right _ ha)) y.cel
      have own' : ∀ a ∈ r1 ++ [] ++ bs', G' a = none ∧ a ∉ a2 ++ b2 ∧ B.F a = none := fun a ha => by
        obtain ⟨h1, h2⟩ := y.fre a ha
        have h2' : (if a ∈ a2 ++ b2 then H a else B.F a) = none := h2
        by_cases hm : a ∈ a2 ++ b2
        · rw [if_pos hm] at h2'
          obtain ⟨o, e⟩ := def2 a hm
          rw [e] at h2'
          cases h2'
        · rw [if_neg hm] at h2'
          exact ⟨h1, hm, h2'⟩
      have old' : ∀ a ∈ a2 ++ b2, G' a = none ∧ B.F a = none := fun a ha => by
        have f2 := fr a (List.mem_append_right _ ha)
        refine ⟨?_, f2.2⟩
        cases hq : G' a with
        | none => rfl
        | some o =>
          rcases y.new a o hq with h | h | ⟨xs, rfl⟩
          · have h' : G a = some o := h
            rw [f2.1] at h'
            cases h'
          · have h' : (if a ∈ a2 ++ b2 then H a else B.F a) = none := h
            rw [if_pos ha] at h'
            obtain ⟨o', e⟩ := def2 a ha
            rw [e] at h'
            cases h'
          · obtain ⟨o', e, n⟩ := nt2 a ha
            have h1 := y.sub a _ hq
            rw [keep a ha, e] at h1
            cases h1
            exact absurd rfl (n xs)
      have pm3 : (r1 ++ a2 ++ b).Perm ((r1 ++ [] ++ bs') ++ (a2 ++ b2)) := by
        have e1 := List.Perm.append_left (r1 ++ a2) pb
        refine e1.trans ?_
        rw [List.append_nil, List.append_assoc, List.append_assoc]
        refine List.Perm.append_left _ ?_
        rw [← List.append_assoc, ← List.append_assoc]
        exact List.Perm.append_right _ List.perm_append_comm
      have nd3 : (r1 ++ a2 ++ b).Nodup := pm3.nodup_iff.mpr (List.nodup_append.mpr ⟨y.nod, (List.nodup_append.mp nd2).2.1, fun a ha c hc e => (own' a ha).2.1 (e ▸ hc)⟩)
      refine q v H' ⟨G', r1 ++ a2, b, y1', cb, z.slo.mono eg, nd3, fun a ha => ?_, z.gro.trans eg, fun a o h => ?_, y.sub, fun a o h => ?_⟩
      · rcases List.mem_append.mp (pm3.mem_iff.mp ha) with h | h
        · exact ⟨(own' a h).1, (own' a h).2.2⟩
        · exact old' a h
      · rcases y.new a o h with h2 | h2 | h2
        · exact z.new a o h2
        · have h' : (if a ∈ a2 ++ b2 then H a else B.F a) = none := h2
          by_cases hm : a ∈ a2 ++ b2
          · rw [if_pos hm] at h'
            obtain ⟨o', e⟩ := def2 a hm
            rw [e] at h'
            cases h'
          · rw [if_neg hm] at h'
            exact .inr (.inl h')
        · exact .inr (.inr h2)
      · refine y.frm a o ?_
        show (if a ∈ a2 ++ b2 then H a else B.F a) = some o
        by_cases hm : a ∈ a2 ++ b2
        · rw [(fr a (List.mem_append_right _ hm)).2] at h
          cases h
        · rw [if_neg hm]
          exact h
section
variable {X : Cx} {B : Base} {S S1 S2 S3 : Stt} {x y z : Slot} {a b e o : Expr} {es : List Expr} {pos apos : Pos} {D : FE} {rest : List Stmt} {k : Nat} {tg : Expr}
/-- f(e, ..), a def of the text -/
theorem je_call {γ : Type} {f : FS γ} {fa : Addr} {fd : FuncData} {ps : List Str} {n : Str} {p : Pos} {xs : List Slot} {cs1 cs2 : List (Addr × Cel)} (F : FnOk X.prog X.w X.K X.mg X.base CX0 k fa fd ps f.sp) {lv : Nat} (hr : Room lv X.A) (hlv : k ≤ lv) (hm : X.mg n = some (.ref fa)) (hk : PySem.W.keepIn X.K (.ref fa) = true) (hb : Binds X.K fd ps [])
    (ha : JA X B S (e :: es) S1 xs) (g : γ) (hpre : f.pre g) (hx : f.args g = xs) (hpk : Pk S1.cs (f.cells g) cs1) (hpt : Pt cs1 (f.cells' g) cs2) (hG : ∀ G', Ex B.G G' → f.preG g G' := by exact fun _ _ => trivial) (hg : Gl X n := by rfl) (hdb : (n == ("__debug__" : Str)) = false := by decide) (he : starEach (e :: es) X.env = (false, eval e X.env) :: starEach es X.env := by rfl) (hpl : (backTo pos (starEach es X.env)).any (·.1) = false := by rfl) :
    JE X B S (.Call (.Name n p) (e :: es) [] pos) ⟨S1.sl, cs2⟩ (f.res g) := fun T tv σ H Q h q =>
  pe1 (pe_call F (hr.mono hlv) hg hm hk hb .nil pass0 pa0 hdb he hpl) (ha _ _ _ _ _ h fun vs H1 hl h1 => by
    rw [List.append_nil]
    exact sp_of f g hpre hG hx hl hpk hpt h1 q)
theorem SsI.slots {G H : Hp} : ∀ {ss : List Slot} {vs : List V} {as : List Addr}, SsI G H ss vs as → (∀ s ∈ ss, s.plain = true) → ∀ (i : Nat) s, ss[i]? = some s → ∃ u, vs[i]? = some u ∧ SlOk G s (some u)
  | _, _, _, .nil, _, i, s, h => by simp at h
  | _, _, _, .cons (u := u) h1 h2, hp, 0, s, h => by
    have e := Option.some.inj (show some _ = some s from h)
    subst e
    exact ⟨u, rfl, h1.ok (hp _ List.mem_cons_self)⟩
  | _, _, _, .cons h1 h2, hp, i + 1, s, h => SsI.slots h2 (fun s hs => hp s (List.mem_cons_of_mem _ hs)) i s h
theorem Sta.enter {xs : List Slot} {vs : List V} {H : Hp} {cs : List (Addr × Cel)} {N : List Str} (h : Sta B ⟨[], cs⟩ xs [] vs H) (hp : ∀ s ∈ xs, s.plain = true) : Sta B ⟨xs ++ List.replicate (N.length - xs.length) .any, cs⟩ [] (start N vs) [] H := by
  obtain ⟨G, as, bs, z⟩ := h
  have hl := z.tmp.len
  have e := z.tmp.plain hp
  subst e
  refine ⟨G, [], bs, .nil, z.cel, ⟨?_, fun i s hs => ?_⟩, z.nod, z.fre, z.gro, z.new, z.sub, z.frm⟩
  · show (xs ++ List.replicate (N.length - xs.length) Slot.any).length = (vs.map some ++ List.replicate (N.length - vs.length) none).length
    rw [List.length_append, List.length_append, List.length_map, List.length_replicate, List.length_replicate, hl]
  · show ∃ o, (vs.map some ++ List.replicate (N.length - vs.length) none)[i]? = some o ∧ SlOk G s o
    by_cases hi : i < xs.length
    · rw [List.getElem?_append_left hi] at hs
      obtain ⟨u, h1, h2⟩ := z.tmp.slots hp i s hs
      exact ⟨some u, by rw [List.getElem?_append_left (by rw [List.length_map]; omega), List.getElem?_map, h1] <;> rfl, h2⟩
    · rw [List.getElem?_append_right (by omega), List.getElem?_replicate] at hs
      split at hs
      · cases hs
        refine ⟨none, ?_, trivial⟩
        rw [List.getElem?_append_right (by rw [List.length_map]; omega), List.getElem?_replicate, List.length_map, if_pos (by omega)]
      · cases hs
theorem tb_mono {st : List Stmt} {D D' : Ends} {σ : St} {H : Hp} (h : tbOf X st D σ H) (h1 : ∀ σ H, D.nx σ H → D'.nx σ H) (h2 : ∀ v H, D.rt v H → D'.rt v H) (h3 : ∀ σ H, D.bk σ H → D'.bk σ H) (h4 : ∀ σ H, D.ct σ H → D'.ct σ H) : tbOf X st D' σ H := ⟨fun pins s I => thn (h.run pins s I) fun f s1 q => by
  cases f with
  | next => obtain ⟨σ', H', I', q⟩ := q; exact ⟨σ', H', I', h1 _ _ q⟩
  | brk => obtain ⟨σ', H', I', q⟩ := q; exact ⟨σ', H', I', h3 _ _ q⟩
  | cont => obtain ⟨σ', H', I', q⟩ := q; exact ⟨σ', H', I', h4 _ _ q⟩
  | ret u => obtain ⟨v, σ', H', I', r, q⟩ := q; exact ⟨v, σ', H', I', r, h2 _ _ q⟩⟩
/-- what a body is to reach -/
abbrev fend {γ : Type} (B : Base) (f : FS γ) (g : γ) : FE := { nx := fun T tv σ H => Out B (f.res g) (f.cells' g) .non H, rt := Out B (f.res g) (f.cells' g) }
abbrev fctx (P : Program) (w : World) (K : PySem.W.Frag) (mg : Str → Option Value) (base : Heap) (N : List Str) (qual : Str) (sc : Scope) (fa : Addr) (cdv : Value) (A : Around) (outer : List Env) (s : Shared) (H : Hp) (E : XK) : Cx := (cxOf CX0 P w K mg base N qual sc fa cdv A outer s H E).nox
end
end J
namespace J
universe u w
open PySem L2
open PySem.W (Datum DatumOrd Holds HoldAll T3 T4)
/-! ### the mirror's guards -/
def mulG (i j : Int) : Option Int := if ((-(18446744073709551616) < i ∧ i < 18446744073709551616) ∨ (-(18446744073709551616) < j ∧ j < 18446744073709551616)) then some (i * j) else none
def divG (i j : Int) : Option Int := if 0 < j ∧ j < 18446744073709551616 then some (i / j) else none
def modG (i j : Int) : Option Int := if 0 < j then some (i % j) else none
def powG (i : Int) (n : Nat) : Option Int := if i.natAbs < 18446744073709551616 then some (i ^ n) else none
def andM (p : Bool) (m : Option Bool) : Option Bool := if p = true then m else some false
def orM (p : Bool) (m : Option Bool) : Option Bool := if p = true then some true else m
theorem ifT {α : Type} {p : Bool} {a b c : α} (hp : p = true) (h : (if p = true then a else b) = c) : a = c := by rw [if_pos hp] at h; exact h
theorem ifF {α : Type} {p : Bool} {a b c : α} (hp : p = false) (h : (if p = true then a else b) = c) : b = c := by rw [if_neg (by rw [hp]; decide)] at h; exact h
/-! dicts with literal or typed keys -/
section
variable {G H : Hp}
/-! ### a part of a thing: with a name of its own, or owned by the thing -/
def Cel.nth : Cel → Nat → Option Slot
  | .lst ss, j => ss[j]?
  | .ins _ fs, j => (fs[j]?).map (·.2)
  | .dk _ ss, j => ss[j]?
  | .fdk _ _ ss, j => ss[j]?
  | .gone, _ => none
  | .say _, _ => none
def setF2 {α β : Type _} (fs : List (α × β)) (j : Nat) (y : β) : List (α × β) := match fs, j with
  | [], _ => []
  | (a, _) :: r, 0 => (a, y) :: r
  | p :: r, j + 1 => p :: setF2 r j y
def Cel.sub : Cel → Nat → Slot → Cel
  | .lst ss, j, y => .lst (ss.set j y)
  | .ins C fs, j, y => .ins C (setF2 fs j y)
  | .dk ks ss, j, y => .dk ks (ss.set j y)
  | .fdk o ks ss, j, y => .fdk o ks (ss.set j y)
  | .gone, _, _ => .gone
  | .say ψ, _, _ => .say ψ
theorem setF2_snd {α β : Type _} : ∀ (fs : List (α × β)) (j : Nat) (y : β), (setF2 fs j y).map (·.2) = (fs.map (·.2)).set j y
  | [], _, _ => by simp [setF2]
  | (a, b) :: r, 0, y => rfl
  | p :: r, j + 1, y => by
    show p.2 :: (setF2 r j y).map (·.2) = p.2 :: (r.map (·.2)).set j y
    rw [setF2_snd r j y]
theorem setF2_fst {α β : Type _} : ∀ (fs : List (α × β)) (j : Nat) (y : β), (setF2 fs j y).map (·.1) = fs.map (·.1)
  | [], _, _ => by simp [setF2]
  | (a, b) :: r, 0, y => rfl
  | p :: r, j + 1, y => by
    show p.1 :: (setF2 r j y).map (·.1) = p.1 :: r.map (·.1)
    rw [setF2_fst r j y]
/-- the j-th slot taken out of a row, another one put in -/
theorem SsI.part : ∀ {ss : List Slot} {vs : List V} {as : List Addr} (j : Nat) {s : Slot}, SsI G H ss vs as → ss[j]? = some s → ∃ a1 u m a2, as = a1 ++ m ++ a2 ∧ vs[j]? = some u ∧ SlI G H s u m ∧ ∀ {s' m'}, SlI G H s' u m' → SsI G H (ss.set j s') vs (a1 ++ m' ++ a2)
  | [], _, _, _, _, _, e => by simp at e
  | s0 :: ss, vs, as, 0, s, h, e => by
    have e1 := Option.some.inj (show some s0 = some s from e)
    subst e1
    cases h with
    | @cons _ u m _ vs a2 h1 h2 => exact ⟨[], u, m, a2, rfl, rfl, h1, fun h' => .cons h' h2⟩
  | s0 :: ss, vs, as, j + 1, s, h, e => by
    cases h with
    | @cons _ u0 m0 _ vs a0 h1 h2 =>
      obtain ⟨a1, u, m, a2, rfl, hu, hs, reb⟩ := SsI.part (ss := ss) j h2 (show ss[j]? = some s from e)
      refine ⟨m0 ++ a1, u, m, a2, by simp only [List.append_assoc], hu, hs, fun {s' m'} h' => ?_⟩
      have := SsI.cons h1 (reb h')
      simpa only [List.append_assoc, List.set_cons_succ] using this
theorem CeI.part {c : Cel} {o : HO} {as : List Addr} (h : CeI G H c o as) (j : Nat) {s : Slot} (e : c.nth j = some s) : ∃ a1 u m a2, as = a1 ++ m ++ a2 ∧ SlI G H s u m ∧ ∀ {s' m'}, SlI G H s' u m' → CeI G H (c.sub j s') o (a1 ++ m' ++ a2) := by
  cases h with
  | lst h =>
    obtain ⟨a1, u, m, a2, rfl, _, hs, reb⟩ := h.part j e
    exact ⟨a1, u, m, a2, rfl, hs, fun h' => .lst (reb h')⟩
  | @ins C dx fs gs as h1 h =>
    have e' : (fs.map (·.2))[j]? = some s := by rw [List.getElem?_map]; exact e
    obtain ⟨a1, u, m, a2, rfl, _, hs, reb⟩ := h.part j e'
    refine ⟨a1, u, m, a2, rfl, hs, fun h' => .ins (by rw [setF2_fst]; exact h1) ?_⟩
    rw [setF2_snd]
    exact reb h'
  | dk h1 h =>
    obtain ⟨a1, u, m, a2, rfl, _, hs, reb⟩ := h.part j e
    exact ⟨a1, u, m, a2, rfl, hs, fun h' => .dk h1 (reb h')⟩
  | fdk h =>
    obtain ⟨a1, u, m, a2, rfl, _, hs, reb⟩ := h.part j e
    exact ⟨a1, u, m, a2, rfl, hs, fun h' => .fdk (reb h')⟩
  | say m h => cases e
end
section
variable {X : Cx} {B : Base} {S S1 S2 S3 : Stt} {x y z : Slot} {a b e o : Expr} {es : List Expr} {pos apos : Pos} {D : FE} {rest : List Stmt} {kk : Nat} {tg : Expr}
/-- the j-th part of the k-th cell gets a name -/
theorem js_open (k j : Nat) {p : Addr} {c d : Cel} (hk : S.cs[k]? = some (p, c)) (hj : c.nth j = some (.own d)) (h : ∀ q, JS X B ⟨S.sl, S.cs.set k (p, c.sub j (.v (.ref q))) ++ [(q, d)]⟩ rest D) : JS X B S rest D := fun T tv σ H hs => by
  obtain ⟨G, as, bs, z⟩ := hs
  have hg : c ≠ .gone := by intro e; subst e; cases hj
  obtain ⟨l, o, m, r, rfl, hp, hc, reb⟩ := z.cel.at k hk hg
  obtain ⟨a1, u, m1, a2, rfl, hs1, reb2⟩ := hc.part j hj
  cases hs1 with
  | @own _ q od mq hq hd =>
    have c2 := (reb (Ex.refl G) fun _ _ => rfl).1 hp (reb2 (.v : SlI G H (.v (.ref q)) (.ref q) []))
    have c3 := c2.app (.cons hq hd .nil)
    have pm : (l ++ p :: (a1 ++ [] ++ a2) ++ r ++ (q :: (mq ++ []))).Perm (l ++ p :: (a1 ++ q :: mq ++ a2) ++ r) := by
      simp only [List.append_nil, List.append_assoc, List.cons_append]
      refine List.Perm.append_left l (List.Perm.cons p (List.Perm.append_left a1 ?_))
      have e1 : ((a2 ++ r) ++ (q :: mq)).Perm ((q :: mq) ++ (a2 ++ r)) := List.perm_append_comm
      simpa only [List.append_assoc, List.cons_append] using e1
    have pm2 := List.Perm.append_left as pm
    exact h q T tv σ H ⟨G, as, _, z.tmp, c3, z.slo, pm2.nodup_iff.mpr z.nod, fun a ha => z.fre a (pm2.mem_iff.mp ha), z.gro, z.new, z.sub, z.frm⟩
/-- a name's thing, as a temporary one of its own -/
theorem Sta.own {T : List Slot} {σ : St} {tv : List V} {H : Hp} {p : Addr} {v : V} {c : Cel} (h : Sta B S (.v (.ref p) :: T) σ (v :: tv) H) (k : Nat) (hk : S.cs[k]? = some (p, c)) (hg : c ≠ .gone) : Sta B ⟨S.sl, S.cs.set k (p, .gone)⟩ (.own c :: T) σ (v :: tv) H := by
  have ev := h.exact
  subst ev
  obtain ⟨G, as, bs, z⟩ := h
  obtain ⟨a1, a2, rfl, g, z'⟩ := z.pop
  cases g with
  | v =>
    obtain ⟨l, o, m, r, rfl, hp, hc, reb⟩ := z.cel.at k hk hg
    have pm : ((p :: m) ++ a2 ++ (l ++ r)).Perm (([] ++ a2) ++ (l ++ p :: m ++ r)) := by
      rw [List.nil_append]
      have e1 : (a2 ++ (l ++ p :: m ++ r)).Perm (a2 ++ ((p :: m) ++ (l ++ r))) := List.Perm.append_left _ (by
        rw [← List.append_assoc]
        exact List.Perm.append_right _ List.perm_append_comm)
      have e2 : (a2 ++ ((p :: m) ++ (l ++ r))).Perm ((p :: m) ++ a2 ++ (l ++ r)) := by
        rw [← List.append_assoc]
        exact List.Perm.append_right _ List.perm_append_comm
      exact (e1.trans e2).symm
    exact ⟨G, (p :: m) ++ a2, l ++ r, .cons (.own hp hc) z'.tmp, (reb (Ex.refl G) fun _ _ => rfl).2 p, z.slo, pm.nodup_iff.mpr z.nod, fun a ha => z.fre a (pm.mem_iff.mp ha), z.gro, z.new, z.sub, z.frm⟩
theorem je_own (k : Nat) {p : Addr} {c : Cel} (h : JE X B S e S1 (.v (.ref p))) (hk : S1.cs[k]? = some (p, c)) (hg : c ≠ .gone := by nofun) : JE X B S e ⟨S1.sl, S1.cs.set k (p, .gone)⟩ (.own c) := fun T tv σ H Q hs q => h _ _ _ _ _ hs fun v H' g => q v H' (g.own k hk hg)
/-- the j-th part of a temporary thing is the k-th cell's: it is taken in -/
theorem Sta.fold {T : List Slot} {σ : St} {tv : List V} {H : Hp} {q : Addr} {v : V} {c d : Cel} (h : Sta B S (.own c :: T) σ (v :: tv) H) (k j : Nat) (hj : c.nth j = some (.v (.ref q))) (hk : S.cs[k]? = some (q, d)) (hg : d ≠ .gone) : Sta B ⟨S.sl, S.cs.set k (q, .gone)⟩ (.own (c.sub j (.own d)) :: T) σ (v :: tv) H := by
  obtain ⟨G, as, bs, z⟩ := h
  obtain ⟨a1, a2, rfl, g, z'⟩ := z.pop
  cases g with
  | @own _ p o m hp hc =>
    obtain ⟨l, od, md, r, rfl, hq, hd, reb⟩ := z.cel.at k hk hg
    obtain ⟨b1, u, m1, b2, rfl, hs1, reb2⟩ := hc.part j hj
    cases hs1 with
    | v =>
      have c2 := reb2 (.own hq hd)
      have pm : ((p :: (b1 ++ (q :: md) ++ b2)) ++ a2 ++ (l ++ r)).Perm ((p :: (b1 ++ [] ++ b2)) ++ a2 ++ (l ++ (q :: md) ++ r)) := by
        rw [List.append_nil]
        have e1 : ((p :: (b1 ++ (q :: md) ++ b2)) ++ a2 ++ (l ++ r)).Perm ((q :: md) ++ ((p :: (b1 ++ b2)) ++ a2 ++ (l ++ r))) := by
          have f1 : (p :: (b1 ++ (q :: md) ++ b2)).Perm ((q :: md) ++ (p :: (b1 ++ b2))) := by
            have g1 : (b1 ++ (q :: md) ++ b2).Perm ((q :: md) ++ (b1 ++ b2)) := by
              rw [← List.append_assoc]
              exact List.Perm.append_right _ List.perm_append_comm
            have g2 : (p :: ((q :: md) ++ (b1 ++ b2))).Perm ((q :: md) ++ (p :: (b1 ++ b2))) := List.perm_middle.symm
            exact (List.Perm.cons p g1).trans g2
          have f2 := List.Perm.append_right (l ++ r) (List.Perm.append_right a2 f1)
          rw [List.append_assoc (q :: md), List.append_assoc (q :: md)] at f2
          exact f2
        refine e1.trans ?_
        have e2 : (l ++ (q :: md) ++ r).Perm ((q :: md) ++ (l ++ r)) := by
          rw [← List.append_assoc]
          exact List.Perm.append_right _ List.perm_append_comm
        have e3 := List.Perm.append_left ((p :: (b1 ++ b2)) ++ a2) e2
        refine List.Perm.trans ?_ e3.symm
        rw [← List.append_assoc, ← List.append_assoc ((p :: (b1 ++ b2)) ++ a2)]
        exact List.Perm.append_right _ List.perm_append_comm
      exact ⟨G, _, l ++ r, .cons (.own hp c2) z'.tmp, (reb (Ex.refl G) fun _ _ => rfl).2 q, z.slo, pm.nodup_iff.mpr z.nod, fun a ha => z.fre a (pm.mem_iff.mp ha), z.gro, z.new, z.sub, z.frm⟩
theorem je_fold (k j : Nat) {q : Addr} {c d : Cel} (h : JE X B S e S1 (.own c)) (hj : c.nth j = some (.v (.ref q))) (hk : S1.cs[k]? = some (q, d)) (hg : d ≠ .gone := by nofun) : JE X B S e ⟨S1.sl, S1.cs.set k (q, .gone)⟩ (.own (c.sub j (.own d))) := fun T tv σ H Q hs q' => h _ _ _ _ _ hs fun v H' g => q' v H' (g.fold k j hj hk hg)
/-! ### impure parts of tests, guarded operators -/
section
variable {i j r : Int} {p q : Bool} {m m2 : Option Bool} {rs : List Expr}
theorem je_mulG (ha : JE X B S a S1 (.val i)) (hb : JE X B S1 b S2 (.val j)) (h : mulG i j = some r) : JE X B S (.BinOp a .Mult b pos) S2 (.val r) := by
  unfold mulG at h
  split at h
  · cases h
    exact je_mul ha hb (by assumption)
  · cases h
theorem je_divG (ha : JE X B S a S1 (.val i)) (hb : JE X B S1 b S2 (.val j)) (h : divG i j = some r) : JE X B S (.BinOp a .FloorDiv b pos) S2 (.val r) := by
  unfold divG at h
  split at h
  · cases h
    exact je_div ha hb (by assumption)
  · cases h
theorem je_modG (ha : JE X B S a S1 (.val i)) (hb : JE X B S1 b S2 (.val j)) (h : modG i j = some r) : JE X B S (.BinOp a .Mod b pos) S2 (.val r) := by
  unfold modG at h
  split at h
  · cases h
    exact je_mod ha hb (by assumption)
  · cases h
theorem je_powG (n : Nat) (ha : JE X B S a S1 (.val i)) (hb : JE X B S1 b S2 (.val (n : Int))) (hn : n ≤ 1000000) (h : powG i n = some r) : JE X B S (.BinOp a .Pow b pos) S2 (.val r) := by
  unfold powG at h
  split at h
  · cases h
    exact je_pow ha hb hn (by assumption)
  · cases h
theorem jw_andM (he : andM p m = some q) (h : JT X B S a S1 p) (h2 : p = true → ∀ r, m = some r → JW X B S1 (.BoolOp .And (b :: rs) pos) S1 r) : JW X B S (.BoolOp .And (a :: b :: rs) pos) S1 q := by
  unfold andM at he
  cases p with
  | true =>
    rw [if_pos rfl] at he
    have := jw_and (q := q) h fun _ => h2 rfl q he
    rwa [Bool.true_and] at this
  | false =>
    rw [if_neg (by decide)] at he
    cases he
    have := jw_and (b := b) (rest := rs) (pos := pos) (q := false) h (fun e => nomatch e)
    rwa [Bool.and_false] at this
theorem jw_orM (he : orM p m = some q) (h : JT X B S a S1 p) (h2 : p = false → ∀ r, m = some r → JW X B S1 (.BoolOp .Or (b :: rs) pos) S1 r) : JW X B S (.BoolOp .Or (a :: b :: rs) pos) S1 q := by
  unfold orM at he
  cases p with
  | false =>
    rw [if_neg (by decide)] at he
    have := jw_or (q := q) h fun _ => h2 rfl q he
    rwa [Bool.false_or] at this
  | true =>
    rw [if_pos rfl] at he
    cases he
    have := jw_or (b := b) (rest := rs) (pos := pos) (q := true) h (fun e => nomatch e)
    rwa [Bool.or_true] at this
end
/-! ### lists made of others -/
/-- xs + ys, lists that stand in the heap -/
theorem je_cat {s1 s2 : List Slot} (ha : JE X B S a S1 x) (hb : JE X B S1 b S2 y) (h1 : ∀ {T σ v tv H G as bs}, St0 B S2 (x :: T) σ (v :: tv) H G as bs → ∃ p vs, v = .ref p ∧ H p = some (.lst vs) ∧ SsI G H s1 vs []) (h2 : ∀ {T σ v tv H G as bs}, St0 B S2 (y :: T) σ (v :: tv) H G as bs → ∃ p vs, v = .ref p ∧ H p = some (.lst vs) ∧ SsI G H s2 vs []) (hl : s1.length + s2.length ≤ 16777216) : JE X B S (.BinOp a .Add b pos) S2 (.own (.lst (s1 ++ s2))) :=
  je_op op_cat ha hb fun T tv σ v u H Q h q => by
    obtain ⟨G, as, bs, z⟩ := h
    obtain ⟨a1, a2, rfl, _, z1⟩ := id z.pop
    obtain ⟨p2, vs2, rfl, hp2, hs2⟩ := h2 z
    obtain ⟨p1, vs1, rfl, hp1, hs1⟩ := h1 z1
    obtain ⟨a3, a4, rfl, _, z2⟩ := id z1.pop
    exact ⟨p1, p2, vs1, vs2, rfl, rfl, hp1, hp2, by rw [← hs1.len, ← hs2.len]; exact hl, fun r hr => q _ _ (z2.newO hr (.lst (hs1.any'.app hs2.any')))⟩
/-- a list that stands in the heap itself -/
def Lh (B : Base) (S : Stt) (x : Slot) (ss : List Slot) : Prop := ∀ {T σ v tv H G as bs}, St0 B S (x :: T) σ (v :: tv) H G as bs → ∃ p vs, v = .ref p ∧ H p = some (.lst vs) ∧ SsI G H ss vs []
theorem lh_val {α : Type} [DecidableEq α] [Datum α] {xs : List α} : Lh B S (.val xs) (xs.map Slot.val) := fun z => by
  obtain ⟨a1, a2, _, h, z'⟩ := z.pop
  cases h with
  | val h =>
    generalize hd : Datum.toD xs = d at h
    have e : d = .list (xs.map Datum.toD) := hd.symm
    subst e
    cases h with
    | lst hp ha => exact ⟨_, _, rfl, z.sub _ _ hp, dqAll_ss ha⟩
theorem lh_own {α : Type} [DecidableEq α] [Datum α] {xs : List α} : Lh B S (.own (.lst (xs.map Slot.val))) (xs.map Slot.val) := fun z => by
  obtain ⟨a1, a2, _, h, z'⟩ := z.pop
  cases h with
  | own hp' hc =>
    cases hc with
    | lst hs => exact ⟨_, _, rfl, hp', hs.plain (plain_map xs) ▸ hs⟩
def catG {α : Type} (xs ys : List α) : Option (List α) := if xs.length + ys.length ≤ 16777216 then some (xs ++ ys) else none
theorem je_catG {α : Type} [DecidableEq α] [Datum α] {xs ys zs : List α} (ha : JE X B S a S1 x) (hb : JE X B S1 b S2 y) (h1 : Lh B S2 x (xs.map Slot.val)) (h2 : Lh B S2 y (ys.map Slot.val)) (h : catG xs ys = some zs) : JE X B S (.BinOp a .Add b pos) S2 (.own (.lst (zs.map Slot.val))) := by
  unfold catG at h
  split at h
  · cases h
    rw [List.map_append]
    exact je_cat ha hb h1 h2 (by rw [List.length_map, List.length_map]; assumption)
  · cases h
/-! any, all of made lists of truths -/
end
end J
namespace J
universe u w
open PySem L2
open PySem.W (Datum DatumOrd Holds HoldAll T3 T4)
/-! ### dicts whose keys are written -/
end J
namespace J
universe u w
open PySem L2
open PySem.W (Datum DatumOrd Holds HoldAll T3 T4)
/-! ### what may fail is told by none: the rules over it -/
def lcM {ι α β : Type} (f : ι → α → Option (Option β × ι)) (xs : List α) (s : ι) : Option (List β × ι) := if xs.length ≤ 16777216 then cmpM f xs s else none
theorem lcM_of {ι α β : Type} {f : ι → α → Option (Option β × ι)} {xs : List α} {s : ι} {r : List β × ι} (h : lcM f xs s = some r) : xs.length ≤ 16777216 ∧ cmpM f xs s = some (r.1, r.2) := by
  unfold lcM at h
  by_cases e : xs.length ≤ 16777216
  · rw [if_pos e] at h; exact ⟨e, h⟩
  · rw [if_neg e] at h; cases h
def rngG (j : Int) : Option (List Int) := if -(4611686018427387904 : Int) ≤ j ∧ j < 4611686018427387904 then some (rng 0 j.toNat) else none
def popG {α : Type} (xs : List α) (i : Int) : Option (α × List α) := if xs.length ≤ 16777216 then (ixp xs.length i).bind fun j => xs[j]?.bind fun t => some (t, xs.eraseIdx j) else none
theorem popG_of {α : Type} {xs : List α} {i : Int} {r : α × List α} (h : popG xs i = some r) : ∃ j, xs.length ≤ 16777216 ∧ ixp xs.length i = some j ∧ xs[j]? = some r.1 ∧ r.2 = xs.eraseIdx j := by
  unfold popG at h
  by_cases e : xs.length ≤ 16777216
  · rw [if_pos e] at h
    refine bnd h fun j hj h => bnd h fun t ht h => ?_
    cases h
    exact ⟨j, e, hj, ht, rfl⟩
  · rw [if_neg e] at h; cases h
theorem map_erase {α : Type u} {β : Type w} (f : α → β) : ∀ (xs : List α) (j : Nat), (xs.eraseIdx j).map f = (xs.map f).eraseIdx j
  | [], _ => rfl
  | _ :: _, 0 => rfl
  | x :: xs, j + 1 => congrArg (f x :: ·) (map_erase f xs j)
section
variable {X : Cx} {B : Base} {S S1 S2 S3 : Stt} {x y z : Slot} {a b e o : Expr} {es : List Expr} {pos apos : Pos} {D : FE} {rest : List Stmt} {kk : Nat} {tg : Expr} {p : Addr}
theorem je_appG {α : Type} [DecidableEq α] [Datum α] {xs ys : List α} {t : α} (k : Nat) {ss0 : List Slot} (ho : JE X B S o S1 (.v (.ref p))) (hk0 : S1.cs[k]? = some (p, .lst ss0)) (he : JE X B S1 e S2 (.val t)) (hk : S2.cs[k]? = some (p, .lst (xs.map Slot.val))) (h : psh xs t = some ys)
    (hbase : attributeBase o "append" X.env (eval o X.env) = eval o X.env := by rfl) (hst : starEach [e] X.env = (false, eval e X.env) :: starEach [] X.env := by rfl)
    (hfew : ((backTo pos (starEach [e] X.env)).all (fun x => !x.1) && (backToKw pos (keywordEach [] X.env)).all (fun x => x.1.isSome) && decide (([e] : List Expr).length + ([] : List Keyword).length + (if ([] : List Keyword).isEmpty then 0 else 1) < 30)) = true := by rfl)
    (hline : (apos.endLine == pos.line) = true := by rfl) : JE X B S (.Call (.Attribute o "append" apos) [e] [] pos) ⟨S2.sl, S2.cs.set k (p, .lst (ys.map Slot.val))⟩ (.v .non) := by
  obtain ⟨hl, rfl⟩ := psh_some h
  have := je_append (y := .val t) k ho hk0 he hk (by rw [List.length_map]; exact hl) rfl hbase hst hfew hline
  rw [List.map_append]
  exact this
theorem je_popG {α : Type} [DecidableEq α] [Datum α] {xs : List α} {i : Int} {r : α × List α} (k : Nat) {ss0 : List Slot} (ho : JE X B S o S1 (.v (.ref p))) (hk0 : S1.cs[k]? = some (p, .lst ss0)) (he : JE X B S1 e S2 (.val i)) (hk : S2.cs[k]? = some (p, .lst (xs.map Slot.val))) (h : popG xs i = some r)
    (hbase : attributeBase o "pop" X.env (eval o X.env) = eval o X.env := by rfl) (hst : starEach [e] X.env = (false, eval e X.env) :: starEach [] X.env := by rfl)
    (hfew : ((backTo pos (starEach [e] X.env)).all (fun x => !x.1) && (backToKw pos (keywordEach [] X.env)).all (fun x => x.1.isSome) && decide (([e] : List Expr).length + ([] : List Keyword).length + (if ([] : List Keyword).isEmpty then 0 else 1) < 30)) = true := by rfl)
    (hline : (apos.endLine == pos.line) = true := by rfl) : JE X B S (.Call (.Attribute o "pop" apos) [e] [] pos) ⟨S2.sl, S2.cs.set k (p, .lst (r.2.map Slot.val))⟩ (.val r.1) := by
  obtain ⟨j, hl, hj, ht, e⟩ := popG_of h
  have := je_popAt (s := .val r.1) k ho hk0 he hk (plain_map xs) (by rw [List.length_map]; exact hj) (by rw [List.getElem?_map, ht]; rfl) (by rw [List.length_map]; exact hl) hbase hst hfew hline
  rw [e, map_erase]
  exact this
/-- xs[i] = t -/
theorem jg_subG {α : Type} [DecidableEq α] [Datum α] {xs ys : List α} {t : α} (k : Nat) {i : Int} {ix : Expr} (ho : JE X B S o S1 (.v (.ref p))) (hi : JE X B S1 ix S2 (.val i)) (hk : S2.cs[k]? = some (p, .lst (xs.map Slot.val))) (h : stx xs i t = some ys)
    (ha : ∀ v, assign (.Subscript o ix pos) X.env v = (do
      let ov ← holding [v] (eval o X.env)
      let iv ← holding [v, ov] (eval ix X.env)
      standAt pos
      holding [v, ov, iv] (setItem ov iv v)
      release [v, ov, iv] []) := by intro _; rfl) : JG X B S (.Subscript o ix pos) (.val t) ⟨S2.sl, S2.cs.set k (p, .lst (ys.map Slot.val))⟩ [] := by
  unfold stx at h
  refine bnd h fun j hj h => ?_
  cases h
  have := jg_sub (y := .val t) k ho hi hk (by rw [List.length_map]; exact hj) (plain_map xs) rfl ha
  rw [List.map_set]
  exact this
theorem ji_rngG {q : Pos} {j : Int} {r : List Int} (hm : X.mg "range" = none) (ha : JE X B S e S1 (.val j)) (h : rngG j = some r) (hg : Gl X "range" := by rfl) (hst : starEach [e] X.env = (false, eval e X.env) :: starEach [] X.env := by rfl) (hs : starEach [e] X.env = [(false, eval e X.env)] := by rfl) : JI X B S tg (.Call (.Name "range" q) [e] [] pos) S1 [] (r.map Slot.val) (fun _ => True) := by
  unfold rngG at h
  by_cases c : -(4611686018427387904 : Int) ≤ j ∧ j < 4611686018427387904
  · rw [if_pos c] at h; cases h
    exact ji_range1 hm ha c hg hst hs
  · rw [if_neg c] at h; cases h
/-- the same state, less told of -/
theorem le_fgt {sl : List Slot} {cs : List (Addr × Cel)} (n : Nat) (f : Fgt S.sl sl) (hc : S.cs.take n = cs) : Le B S ⟨sl, cs⟩ := fun _ _ _ _ h => by
  have h2 := (h.fgt f).take n
  rw [show (⟨sl, S.cs⟩ : Stt).cs.take n = cs from hc] at h2
  exact h2
end
end J
namespace J
universe u w
open PySem L2
open PySem.W (Datum DatumOrd Holds HoldAll T3 T4 Tup)
/-! ### remove, index, count; tuples of one kind; calls by names -/
/-! by names alone -/
section
variable {K : PySem.W.Frag} {x qual : Str} {params : Arguments} {body : List Stmt} {scope : Scope} {f : Addr} {fd : FuncData} {ps : List Str}
theorem kb0 (F : FunD K x qual params body scope [] [] f fd) (ks : List Str) (g : {α : Type} → List α → List α)
    (hrel : ∀ {zs : List V} {ws : List Value}, Vals zs ws → Vals (g zs) (g ws))
    (h : ∀ (kV doc pm : Value) (an : Option Addr) (cdv ct : Value) (ws : List Value), ws.length = ks.length → bindArgs (PySem.W.fnOf x qual params body scope .none kV doc pm an cdv ct) ⟨[], ks.zip ws⟩ = pure (ps.zip (g ws))) : KBn K fd ps 0 ks (fun _ ws => g ws) (fun _ zs => g zs) := by
  obtain ⟨oc, od, dV, kV, doc, pm, an, cdv, ct, osl, rfl, lk, hcd, hD, hK⟩ := F.ex
  rcases hD with ⟨_, rfl⟩ | ⟨e, _⟩
  · refine ⟨fun s us ws X l1 l2 => ?_, fun _ r => hrel r⟩
    obtain rfl := List.eq_nil_of_length_eq_zero l1
    exact .of_eq (h kV doc pm an cdv ct ws l2)
  · exact absurd rfl e
end
section
variable {X : Cx} {B : Base} {S S1 S2 S3 : Stt} {x y z : Slot} {a b e o : Expr} {es : List Expr} {pos apos : Pos} {D : FE} {rest : List Stmt} {kk : Nat} {tg : Expr} {p : Addr} {kws : List Keyword}
/-- keywords' values, from the left -/
def JK (X : Cx) (B : Base) (S : Stt) (kws : List Keyword) (S' : Stt) (xs : List Slot) : Prop := ∀ T tv σ H (Q : List V → Hp → Prop), Sta B S T σ tv H → (∀ vs H', vs.length = xs.length → Sta B S' (xs ++ T) σ (vs ++ tv) H' → Q vs H') → ∃ t, PK X kws t ∧ t σ H Q
theorem jk_nil : JK X B S [] S [] := fun T tv σ H Q hs q => ⟨_, pk_nil, q [] H rfl hs⟩
def tkOf (X : Cx) (kws : List Keyword) : TA := fun σ H Q => ∃ t, PK X kws t ∧ t σ H Q
theorem pk0 : PK X kws (tkOf X kws) := ⟨fun pos pins s σ H Q I ⟨_, hp, h⟩ => hp.run pos pins s σ H Q I h⟩
theorem jk_cons {nm : Option Str} {kpos : Pos} {xs : List Slot} (h1 : JE X B S e S1 x) (h2 : JK X B S1 kws S2 xs) : JK X B S (⟨nm, e, kpos⟩ :: kws) S2 (x :: xs) := fun T tv σ H Q hs q =>
  ⟨_, pk_cons pe0 pk0, h1 _ _ _ _ _ hs fun v H1 g1 => h2 _ _ _ _ _ g1 fun vs H2 hl g2 => q (v :: vs) H2 (congrArg Nat.succ hl) (Sta.rot hl.symm g2)⟩
theorem pe_callN0 {CX : CXT} {k : Nat} {f : Addr} {fd : FuncData} {ps ks : List Str} {sp : Sp} {E : XK} {n : Str} {q : Pos} {g : List Value → List Value → List Value} {gV : List V → List V → List V} {tk : TA} (F : FnOk X.prog X.w X.K X.mg X.base CX k f fd ps sp) (hr : Room k X.A) (hg : Gl X n) (hm : X.mg n = some (.ref f)) (hk : PySem.W.keepIn X.K (.ref f) = true) (hb : KBn X.K fd ps 0 ks g gV) (hx : Passes CX X E)
    (hkw : PK X kws tk) (hall : (backToKw pos (keywordEach kws X.env)).all (·.1.isSome) = true := by rfl) (hks : (backToKw pos (keywordEach kws X.env)).filterMap (·.1) = ks := by rfl)
    (hdb : (n == ("__debug__" : Str)) = false := by decide)
    (hpl : ((backTo pos (starEach [] X.env)).any (·.1) || (backToKw pos (keywordEach kws X.env)).any (·.1.isNone)) = false := by rfl) :
    PE X (.Call (.Name n q) [] kws pos) (fun σ H Q => tk σ H fun zs H2 => zs.length = ks.length ∧ sp (gV [] zs) H2 Q E) := by
  refine ⟨fun pins s σ H Q I h => ?_⟩
  refine wpAny_Call_Name_kw (ld_glob I hg hm ?_ hdb)
  refine PySem.W.callWith_KW0 (h₀ := X.base) I.ok.mod.kin hk hall (thn (hkw.run pos pins s σ H _ I h) fun ws s2 ⟨zs, H2, I2, rz, l2, q2⟩ => ⟨I2.kIn, ?_⟩) hpl
  rw [hks]
  exact run_fnN F hr hb hx I2 .nil rz rfl l2 q2
/-- f(k = v, ..), names alone; pm puts the values in the parameters' order -/
theorem je_callK {γ : Type} {f : FS γ} {k lv : Nat} {fa : Addr} {fd : FuncData} {ps ks : List Str} {n : Str} {q : Pos} {xs : List Slot} {cs1 cs2 : List (Addr × Cel)} {g0 : List Value → List Value} {gV : List V → List V} (F : FnOk X.prog X.w X.K X.mg X.base CX0 k fa fd ps f.sp) (hr : Room lv X.A) (hlv : k ≤ lv) (hm : X.mg n = some (.ref fa)) (hk : PySem.W.keepIn X.K (.ref fa) = true) (hb : KBn X.K fd ps 0 ks (fun _ ws => g0 ws) (fun _ zs => gV zs))
    (ha : JK X B S kws S1 xs) (g : γ) (hpre : f.pre g) (hkl : xs.length = ks.length) (hx : ∀ {T : List Slot} {σ : St} {vs tv : List V} {H : Hp}, vs.length = xs.length → Sta B S1 (xs ++ T) σ (vs ++ tv) H → (gV vs).length = (f.args g).length ∧ Sta B S1 (f.args g ++ T) σ (gV vs ++ tv) H) (hpk : Pk S1.cs (f.cells g) cs1) (hpt : Pt cs1 (f.cells' g) cs2) (hG : ∀ G', Ex B.G G' → f.preG g G' := by exact fun _ _ => trivial) (hg : Gl X n := by rfl)
    (hall : (backToKw pos (keywordEach kws X.env)).all (·.1.isSome) = true := by rfl) (hks : (backToKw pos (keywordEach kws X.env)).filterMap (·.1) = ks := by rfl)
    (hdb : (n == ("__debug__" : Str)) = false := by decide)
    (hpl : ((backTo pos (starEach [] X.env)).any (·.1) || (backToKw pos (keywordEach kws X.env)).any (·.1.isNone)) = false := by rfl) :
    JE X B S (.Call (.Name n q) [] kws pos) ⟨S1.sl, cs2⟩ (f.res g) := fun T tv σ H Q h q =>
  pe1 (pe_callN0 F (hr.mono hlv) hg hm hk hb pass0 pk0 hall hks hdb hpl) (ha _ _ _ _ _ h fun vs H1 hl h1 => by
    obtain ⟨l3, h3⟩ := hx hl h1
    exact ⟨hl.trans hkl, sp_of f g hpre hG rfl l3 hpk hpt h3 q⟩)
/-- the top ones, put in another order -/
theorem Sta.perm2 {T : List Slot} {σ : St} {tv : List V} {H : Hp} {u v : V} (h : Sta B S (x :: y :: T) σ (u :: v :: tv) H) : Sta B S (y :: x :: T) σ (v :: u :: tv) H := Sta.rot (xs := [x]) (vs := [u]) rfl h
end
theorem fn_okD {γ : Type} (f : FS γ) {P : Program} {w : World} {K : PySem.W.Frag} {mg : Str → Option Value} {base : Heap} {x qual : Str} {params : Arguments} {bd : List Stmt} {scope : Scope} {dvs : List V} {kwd : List (Str × V)} {fa : Addr} {fd : FuncData} {N ps : List Str} {lv : Nat} (F : FunD K x qual params bd scope dvs kwd fa fd) (sc : FnScope N ps scope) (hn : ∀ g, (f.args g).length = ps.length) (hp : ∀ g, ∀ s ∈ f.args g, s.plain = true)
    (body : ∀ (cdv : Value) (A : Around) (outer : List Env) (s : Shared) (H : Hp) (E : XK), Room lv (fctx P w K mg base N qual scope fa cdv A outer s H E).A → ∀ (B : Base) (g : γ), f.pre g → f.preG g B.G →
      JS (fctx P w K mg base N qual scope fa cdv A outer s H E) B ⟨f.args g ++ List.replicate (N.length - (f.args g).length) .any, f.cells g⟩ bd (fend B f g)) : FnOk P w K mg base CX0 (lv + 1) fa fd ps f.sp := by
  refine F.ok sc (fun vs H Q E h => ?_) (fun cdv A outer s H vs Q E hr h => ?_)
  · obtain ⟨g, B, _, _, hs, _⟩ := h
    obtain ⟨G, as, bs, z⟩ := hs
    rw [← hn g, z.tmp.len]
  · obtain ⟨g, B, hpre, hpg, hs, q⟩ := h
    refine ⟨tbOf (fctx P w K mg base N qual scope fa cdv A outer s H E) bd, PSs.nox pb0, ?_⟩
    refine tb_mono (body cdv A outer s H E hr B g hpre hpg [] [] _ H (hs.enter (hp g))) (fun σ H h => q _ _ h) (fun v H h => q _ _ h) (fun _ _ h => h.elim) (fun _ _ h => h.elim)
end J
namespace J
universe u w
open PySem L2
open PySem.W (Datum DatumOrd Holds HoldAll T3 T4 Tup)
/-! ### loops and joins whose states have addresses of their own (q) -/
/-- one of the states Sq -/
def toE {π : Type} (B : Base) (Sq : π → Stt) : FK := fun T tv σ H => ∃ q, Sta B (Sq q) T σ tv H
section
variable {X : Cx} {B : Base} {S S1 S2 S3 : Stt} {x y z : Slot} {a b e o : Expr} {es : List Expr} {pos apos : Pos} {D : FE} {rest : List Stmt} {kk : Nat} {tg : Expr}
theorem js_ifE {π : Type} {c : Expr} {th el : List Stmt} {p : Bool} {Sq : π → Stt} (hc : JT X B S c S1 p) (h1 : p = true → JS X B S1 th { D with nx := toE B Sq }) (h2 : p = false → JS X B S1 el { D with nx := toE B Sq }) (k : ∀ q, JS X B (Sq q) rest D) : JS X B S (.If c th el pos :: rest) D := by
  have mono : ∀ {st : List Stmt} {T tv σ H}, tbOf X st (({ D with nx := toE B Sq } : FE).at T tv) σ H → tbOf X st ((D.seq X rest).at T tv) σ H := fun {st T tv σ H} h => ⟨fun pins s I => thn (h.run pins s I) fun f s1 q => by
    cases f with
    | next =>
      obtain ⟨σ', H', I', w, q⟩ := q
      exact ⟨σ', H', I', k w _ _ _ _ q⟩
    | brk => exact q
    | cont => exact q
    | ret u => exact q⟩
  exact js_if hc (fun e => fun T tv σ H g => mono (h1 e T tv σ H g)) (fun e => fun T tv σ H g => mono (h2 e T tv σ H g))
theorem js_forE {π ι α : Type} [DecidableEq α] [Datum α] {xs : List α} {f : ι → α → Option ι} {Sf : π → ι → Stt} {Sb : π → ι → α → Stt} {s0 sE : ι} {tg iter : Expr} {body : List Stmt} {zs : List Slot} {ok : Stt → Prop} (hf : forM f xs s0 = some sE)
    (hi : JI X B S tg iter S1 zs (xs.map Slot.val) ok) (h0 : ∀ T tv σ H, Sta B S1 T σ tv H → ∃ q, Sta B (Sf q s0) T σ tv H) (hok : ∀ q s, ok (Sf q s))
    {ws : List Nat} (hg : ∀ q s x, JG X B (Sf q s) tg (.val x) (Sb q s x) ws) (hb : ∀ q s x s', x ∈ xs → f s x = some s' → JS X B (Sb q s x) body { nx := toE B fun q => Sf q s', rt := D.rt, ct := toE B fun q => Sf q s' })
    (k : ∀ q, JS X B (Sf q sE) rest D) (hc : X.calm = true := by rfl) (hp : PassesOwn (model X.prog X.w) X.A X.env X.xe := by exact PassesOwn.never) (hs : ∀ x, foldedSetIterable iter X.env x = pure x := by intro _; rfl) : JS X B S (.For tg iter body [] pos :: rest) D := by
  refine js_step (ps_for hp hc pi0 pg0 pb0 hs) fun T tv σ H h => hi _ _ _ _ _ h fun J zv H1 hl h1 wk => ?_
  refine ⟨fun i m σ H => m = xs.length - i ∧ i ≤ xs.length ∧ ∃ s, forM f (xs.drop i) s = some sE ∧ ∃ q, Sta B (Sf q s) (zs ++ T) σ (zv ++ tv) H, ⟨xs.length, by simp, Nat.zero_le _, s0, hf, h0 _ _ _ _ h1⟩, ?_⟩
  rintro i m σ H ⟨rfl, hle, s, hs', q, hS⟩
  by_cases hlt : i < xs.length
  · rw [List.drop_eq_getElem_cons hlt] at hs'
    refine bnd hs' fun s2 e1 e2 => .inr ?_
    have hx : (xs.map Slot.val)[i]? = some (Slot.val xs[i]) := by rw [List.getElem?_map, List.getElem?_eq_getElem hlt]; rfl
    obtain ⟨w1, w2⟩ := wk.go _ _ _ _ _ i _ (hok q s) hx hS
    refine ⟨w1, toE B (fun q => Sf q s2) (zs ++ T) (zv ++ tv), fun σ' H' g => ⟨xs.length - (i + 1), by omega, rfl, hlt, s2, e2, g⟩, fun v H' y => ?_⟩
    exact hg q s xs[i] _ _ _ _ _ _ (w2 v H' y) fun σ3 H3 _ g3 => ⟨fun pins st I => thn ((hb q s xs[i] s2 (List.getElem_mem hlt) e1 _ _ _ _ g3).run pins st I) fun fl s2 q => by
        cases fl with
        | next => exact q
        | cont => exact q
        | brk => obtain ⟨_, _, _, z⟩ := q; exact z.elim
        | ret u => exact q⟩
  · have e : i = xs.length := by omega
    subst e
    rw [List.drop_length] at hs'
    cases hs'
    have st := wk.stop _ _ _ _ _ (hok _ _) hS
    rw [List.length_map] at st
    exact .inl ⟨st, k q _ _ _ _ (Sta.drops hl hS)⟩
theorem js_forLE {π ι α ρ : Type} [DecidableEq α] [Datum α] {xs : List α} {f : ι → α → Option (Lp ι ρ)} {Sf : π → ι → Stt} {Sb : π → ι → α → Stt} {Rr : ρ → V → Hp → Prop} {s0 : ι} {sE : Sum ι ρ} {tg iter : Expr} {body : List Stmt} {zs : List Slot} {ok : Stt → Prop} (hf : forL f xs s0 = some sE)
    (hi : JI X B S tg iter S1 zs (xs.map Slot.val) ok) (h0 : ∀ T tv σ H, Sta B S1 T σ tv H → ∃ q, Sta B (Sf q s0) T σ tv H) (hok : ∀ q s, ok (Sf q s))
    {ws : List Nat} (hg : ∀ q s x, JG X B (Sf q s) tg (.val x) (Sb q s x) ws)
    (hb : ∀ q s x (o : Lp ι ρ), x ∈ xs → f s x = some o → JS X B (Sb q s x) body { nx := fun T tv σ H => ∃ s', o = .nx s' ∧ ∃ q, Sta B (Sf q s') T σ tv H, rt := fun v H => ∃ r, o = .rt r ∧ Rr r v H, ct := fun T tv σ H => ∃ s', o = .nx s' ∧ ∃ q, Sta B (Sf q s') T σ tv H, bk := fun T tv σ H => ∃ s', o = .bk s' ∧ ∃ q, Sta B (Sf q s') T σ tv H })
    (hr : ∀ r, sE = .inr r → ∀ v H, Rr r v H → D.rt v H) (k : ∀ s, sE = .inl s → ∀ q, JS X B (Sf q s) rest D) (hc : X.calm = true := by rfl) (hp : PassesOwn (model X.prog X.w) X.A X.env X.xe := by exact PassesOwn.never) (hs : ∀ x, foldedSetIterable iter X.env x = pure x := by intro _; rfl) : JS X B S (.For tg iter body [] pos :: rest) D := by
  refine js_step (ps_for hp hc pi0 pg0 pb0 hs) fun T tv σ H h => hi _ _ _ _ _ h fun J zv H1 hl h1 wk => ?_
  refine ⟨fun i m σ H => m = xs.length - i ∧ i ≤ xs.length ∧ ∃ s, forL f (xs.drop i) s = some sE ∧ ∃ q, Sta B (Sf q s) (zs ++ T) σ (zv ++ tv) H, ⟨xs.length, by simp, Nat.zero_le _, s0, hf, h0 _ _ _ _ h1⟩, ?_⟩
  rintro i m σ H ⟨rfl, hle, s, hs', q, hS⟩
  by_cases hlt : i < xs.length
  · rw [List.drop_eq_getElem_cons hlt] at hs'
    refine bnd hs' fun o e1 e2 => .inr ?_
    have hx : (xs.map Slot.val)[i]? = some (Slot.val xs[i]) := by rw [List.getElem?_map, List.getElem?_eq_getElem hlt]; rfl
    obtain ⟨w1, w2⟩ := wk.go _ _ _ _ _ i _ (hok q s) hx hS
    refine ⟨w1, fun σ' H' => ∃ s', o = .nx s' ∧ ∃ q, Sta B (Sf q s') (zs ++ T) σ' (zv ++ tv) H', ?_, fun v H' y => ?_⟩
    · rintro σ' H' ⟨s2, rfl, g⟩
      exact ⟨xs.length - (i + 1), by omega, rfl, hlt, s2, e2, g⟩
    · exact hg q s xs[i] _ _ _ _ _ _ (w2 v H' y) fun σ3 H3 _ g3 => ⟨fun pins st I => thn ((hb q s xs[i] o (List.getElem_mem hlt) e1 _ _ _ _ g3).run pins st I) fun fl s2 q => by
        cases fl with
        | next => exact q
        | cont => exact q
        | brk =>
          obtain ⟨σ', H', I', s', rfl, w, g⟩ := q
          cases e2
          exact ⟨σ', H', I', k s' rfl w _ _ _ _ (Sta.drops hl g)⟩
        | ret u =>
          obtain ⟨v', σ', H', I', rv, r, rfl, g⟩ := q
          cases e2
          exact ⟨v', σ', H', I', rv, hr r rfl _ _ g⟩⟩
  · have e : i = xs.length := by omega
    subst e
    rw [List.drop_length] at hs'
    cases hs'
    have st := wk.stop _ _ _ _ _ (hok _ _) hS
    rw [List.length_map] at st
    exact .inl ⟨st, k s rfl q _ _ _ _ (Sta.drops hl hS)⟩
theorem js_whileE {π ι : Type} {c : ι → Option Bool} {f : ι → Option ι} {Sf : π → ι → Stt} {s0 sE : ι} {n : Nat} {test : Expr} {body : List Stmt} (hw : whileM c f n s0 = some sE) (h0 : ∀ T tv σ H, Sta B S T σ tv H → ∃ q, Sta B (Sf q s0) T σ tv H)
    (hc : ∀ q s p, c s = some p → JT X B (Sf q s) test (Sf q s) p) (hb : ∀ q s s', c s = some true → f s = some s' → JS X B (Sf q s) body { nx := toE B fun q => Sf q s', rt := D.rt, ct := toE B fun q => Sf q s' })
    (k : ∀ q, JS X B (Sf q sE) rest D) (hp : PassesOwn (model X.prog X.w) X.A X.env X.xe := by exact PassesOwn.never) : JS X B S (.While test body [] pos :: rest) D := by
  refine js_step (ps_while hp pt0 pb0) fun T tv σ H h => ?_
  refine ⟨fun m σ H => ∃ s, whileM c f m s = some sE ∧ ∃ q, Sta B (Sf q s) T σ tv H, ⟨n, s0, hw, h0 _ _ _ _ h⟩, ?_⟩
  rintro m σ H ⟨s, hm, q, hs⟩
  cases m with
  | zero => cases hm
  | succ m =>
    refine bnd hm fun p hp1 hm1 => ?_
    refine hc q s p hp1 _ _ _ _ _ hs fun H1 h1 => ?_
    cases p with
    | true =>
      rw [if_pos rfl] at hm1
      refine bnd hm1 fun s' hs' hm2 => ?_
      exact iteT ⟨toE B (fun q => Sf q s') T tv, fun σ' H' g => ⟨m, Nat.lt_succ_self m, s', hm2, g⟩, ⟨fun pins s1 I => thn ((hb q s s' hp1 hs' T tv σ H1 h1).run pins s1 I) fun fl s2 q => by
        cases fl with
        | next => exact q
        | cont => exact q
        | brk => obtain ⟨_, _, _, z⟩ := q; exact z.elim
        | ret u => exact q⟩⟩
    | false =>
      rw [if_neg (by decide)] at hm1
      cases hm1
      exact iteF (k q T tv σ H1 h1)
theorem je_mulR {i j : Int} (ha : JE X B S a S1 (.val i)) (hb : JE X B S1 b S2 (.val j)) (hc : -(2 ^ 64) < j ∧ j < 2 ^ 64) : JE X B S (.BinOp a .Mult b pos) S2 (.val (i * j)) := je_mul ha hb (.inr hc)
theorem je_mulL {i j : Int} (ha : JE X B S a S1 (.val i)) (hb : JE X B S1 b S2 (.val j)) (hc : -(2 ^ 64) < i ∧ i < 2 ^ 64) : JE X B S (.BinOp a .Mult b pos) S2 (.val (i * j)) := je_mul ha hb (.inl hc)
theorem je_lstv {α : Type} [DecidableEq α] [Datum α] {xs : List α} (ha : JA X B S es S1 (xs.map Slot.val)) (hl : xs.length ≤ 1000 := by exact Nat.le_of_ble_eq_true rfl) : JE X B S (.List es pos) S1 (.own (.lst (xs.map Slot.val))) := je_lst ha (by rw [List.length_map]; exact hl)
theorem je_let {α : Type} [DecidableEq α] [Datum α] {p q : α} (h : JE X B S e S1 (.val p)) (k : some p = some q) : JE X B S e S1 (.val q) := Option.some.inj k ▸ h
theorem sl_ownA {G H : Hp} {q : Addr} {c : Cel} {v : V} {as : List Addr} (h : SlI G H (.ownA q c) v as) : v = .ref q ∧ SlI G H (.own c) v as := by
  cases h with
  | ownA hp hc => exact ⟨rfl, .own hp hc⟩
theorem Sta.ownA {T : List Slot} {σ : St} {tv : List V} {H : Hp} {v : V} {q : Addr} {c : Cel} (h : Sta B S (.ownA q c :: T) σ (v :: tv) H) : v = .ref q ∧ Sta B S (.own c :: T) σ (v :: tv) H := by
  obtain ⟨G, as, bs, z⟩ := h
  have zt := z.tmp
  cases zt with
  | cons h1 h2 => exact ⟨(sl_ownA h1).1, G, _, bs, .cons (sl_ownA h1).2 h2, z.cel, z.slo, z.nod, z.fre, z.gro, z.new, z.sub, z.frm⟩
/-- a body's end without return -/
theorem js_fin {γ : Type} {f : FS γ} {g : γ} (n : Nat) (hc : S.cs.take n = f.cells' g) (hx : f.res g = .v .non) : JS X B S [] (fend B f g) := js_nil fun T tv σ H hs => by
  have h := Out.take n (Sta.only (hs.push (x := .v .non) fun _ _ => .v))
  show Out B (f.res g) (f.cells' g) .non H
  rw [hx, ← hc]
  exact h
theorem js_loopEnd {π ι : Type} {Sq : π → ι → Stt} {s' : ι} (n : Nat) (q : π) (f : Fgt S.sl (Sq q s').sl) (hc : S.cs.take n = (Sq q s').cs) (hD : D.nx = toE B fun q => Sq q s') : JS X B S [] D := js_nil fun T tv σ H h => by
  show D.nx T tv σ H
  rw [hD]
  exact ⟨q, le_fgt (sl := (Sq q s').sl) (cs := (Sq q s').cs) n f hc _ _ _ _ h⟩
end
def Slot.isAny : Option Slot → Bool
  | some .any => true
  | none => true
  | _ => false
theorem any_at {sl : List Slot} {vs : List Nat} (h : (vs.all fun i => Slot.isAny sl[i]?) = true) : AnyAt sl vs := fun i hi s hs => by
  have := List.all_eq_true.mp h i hi
  rw [hs] at this
  cases s with
  | any => rfl
  | v w => cases this
  | val t => cases this
  | own c => cases this
  | ownA _ c => cases this
  | otup _ => cases this
  | say φ => cases this
theorem sql_mono {K : PySem.W.Frag} {G G' : Hp} {a : Addr} {xs : List V} (h : SqL K G a xs) (e : Ex G G') : SqL K G' a xs := by
  rcases h with (h | ⟨o, h⟩) | h
  · exact .inl (.inl (e _ _ h))
  · exact .inl (.inr ⟨o, e _ _ h⟩)
  · exact .inr h
theorem inJE {Y : Cx} {B : Base} {S S' : Stt} {e : Expr} {x : Slot} {k : Nat} (hr : Room k Y.A) (hN : Y.N.Nodup) (f : Room k Y.A → Y.N.Nodup → JE Y B S e S' x) : JE Y B S e S' x := f hr hN
theorem inJTs {Y : Cx} {B : Base} {S S' : Stt} {es : List Expr} {p : Bool} {k : Nat} (hr : Room k Y.A) (hN : Y.N.Nodup) (f : Room k Y.A → Y.N.Nodup → JTs Y B S es S' p) : JTs Y B S es S' p := f hr hN
theorem inJG {Y : Cx} {B : Base} {S S' : Stt} {tg : Expr} {x : Slot} {ws : List Nat} (hN : Y.N.Nodup) (f : Y.N.Nodup → JG Y B S tg x S' ws) : JG Y B S tg x S' ws := f hN
end J
namespace J
universe u w
open PySem L2
open PySem.W (Datum DatumOrd Holds HoldAll T3 T4 Tup)
/-! ### lists of parts of their own kinds; insert, clear, reverse of data -/
theorem allp {ss : List Slot} (h : ss.all (·.plain) = true) : ∀ s ∈ ss, s.plain = true := List.all_eq_true.mp h
section
variable {X : Cx} {B : Base} {S S1 S2 S3 : Stt} {x y z : Slot} {a b e o : Expr} {es : List Expr} {pos apos : Pos} {D : FE} {rest : List Stmt} {kk : Nat} {tg : Expr} {p : Addr}
theorem je_revG {α : Type} [DecidableEq α] [Datum α] {xs : List α} (k : Nat) (ho : JE X B S o S1 (.v (.ref p))) (hk : S1.cs[k]? = some (p, .lst (xs.map Slot.val)))
    (hbase : attributeBase o "reverse" X.env (eval o X.env) = eval o X.env := by rfl) (hline : (apos.endLine == pos.line) = true := by rfl) : JE X B S (.Call (.Attribute o "reverse" apos) [] [] pos) ⟨S1.sl, S1.cs.set k (p, .lst (xs.reverse.map Slot.val))⟩ (.v .non) := by
  have := je_reverse k ho hk (plain_map xs) hbase hline
  rw [List.map_reverse]
  exact this
/-- bag[j] = e, a written place of a list of parts -/
theorem jg_het {ss : List Slot} (k j : Nat) {i : Int} {ix : Expr} (ho : JE X B S o S1 (.v (.ref p))) (hi : JE X B S1 ix S2 (.val i)) (hk : S2.cs[k]? = some (p, .lst ss)) (hj : ixp ss.length i = some j := by rfl) (hp : ss.all (·.plain) = true := by rfl) (hy : y.plain = true := by rfl)
    (ha : ∀ v, assign (.Subscript o ix pos) X.env v = (do
      let ov ← holding [v] (eval o X.env)
      let iv ← holding [v, ov] (eval ix X.env)
      standAt pos
      holding [v, ov, iv] (setItem ov iv v)
      release [v, ov, iv] []) := by intro _; rfl) : JG X B S (.Subscript o ix pos) y ⟨S2.sl, S2.cs.set k (p, .lst (ss.set j y))⟩ [] := jg_sub k ho hi hk hj (allp hp) hy ha
end
end J
namespace J
open PySem PySem.Spec PyProof.Rows L2
open PySem.W (Datum)
/-! ### set(xs) of whole numbers, however many; len and sorted of it -/
abbrev eSet (w : World) : Obj := { cls := .type "set", dict := none, data := .set #[] 0 (.fresh 0 0 (!w.params.followText "set-order")) }
section
variable {P : Program} {w : World} {A : Around} {E : Value → Shared → Prop} {s : Shared}
set_option maxHeartbeats 3200000 in
theorem set_lst {l : Addr} {items : Array Value} (ns : List Int) {Q : Value → Shared → Prop} (hh : A.handled = none) (hl : s.heap.IsList l items) (hit : IntsAre items.toList ns) (hb : ns.length + 1 < scanBound)
    (h : ∀ (h' : Heap) (tk c : Nat), SetR w h' s.heap.objs.size (fun j => decide (j ∈ ns)) c → c ≤ ns.length → (∀ b o, s.heap.get? b = some o → h'.get? b = some o) → Q (.ref s.heap.objs.size) { s with heap := h', toks := tk }) :
    wpAny (model P w) A (call (.type "set") [.ref l]) Q E s := by
  have size_eq : items.size = ns.length := (Array.length_toList (xs := items)).symm.trans (IntsAre.length hit)
  obtain ⟨c, tl, hmro⟩ := F.called_set.mro
  have made := F.called_set.made
  have self := F.called_set.sub
  refine wpAny_call (codeAny_of_tree (?_ : wpAny _ _ (callAny (.type "set") _) _ _ _))
  refine wpAny_pure ⟨Code.quiet_builtin _ (by decide +kernel), codeAny_builtin F.entry_type_call ?_⟩
  rw [A.under_plain (weight_type_call_type "set" [.ref l] []) rfl]
  have noType := F.called_set.notType
  have canMake := F.called_set.canCreate
  have callOk := F.typeCall_set_1 (.ref l)
  repeat (any_goals (first | assumption | wp_step))
  refine codeAny_mono (code_set_led1 (.ref l) (E := E) (Q₁ := fun o1 z => o1 = .ref s.heap.objs.size ∧ z = { s with heap := s.heap.push (eSet w) }) ⟨rfl, rfl⟩) fun r1 z hr => ?_
  cases r1 with
  | error e => exact hr
  | ok fl =>
    cases fl with
    | ret o1 =>
      obtain ⟨rfl, rfl⟩ := hr
      have at0 : (s.heap.push (eSet w)).get? s.heap.objs.size = some (eSet w) := Heap.get?_push_size _ rfl
      have ty0 : Shared.TypeIs { s with heap := s.heap.push (eSet w) } (.ref s.heap.objs.size) "set" := ⟨_, at0, rfl⟩
      have look1 := F.called_set.init.lookup
      have bind1 := F.called_set.init.bind (.ref s.heap.objs.size)
      repeat (any_goals (first | assumption | wp_step))
      refine codeAny_mono (codeAny_call_builtin (R := wants (fun r z => r = .none ∧ ∃ h' tk c, z = { s with heap := h', toks := tk } ∧ SetR w h' s.heap.objs.size (fun j => decide (j ∈ ns)) c ∧ c ≤ ns.length ∧ ∀ b o, s.heap.get? b = some o → h'.get? b = some o) E) F.called_set.init.plain F.entry_set_init (check_set_init_1 ty0 ?_)) fun r2 z2 hr2 => ?_
      · obtain ⟨⟨oc, od, odt, osl⟩, lo, lc, nl, ld⟩ := hl
        simp only at lc ld
        subst lc
        subst ld
        have lo' := Heap.get?_push_of_some (eSet w) lo
        have sub1 := F.sub_list_set
        have sub2 := F.sub_list_frozenset
        have ne1 : (Value.type "list" == Value.type "dict") = false := by decide
        have isl : (s.heap.push (eSet w)).IsList l items := ⟨_, lo', rfl, nl, rfl⟩
        unfold Builtin.«set.__init__» noKeywords Builtin.Frozenset.updateFrom
        generalize ePI : pyIter = PI
        wp_walk
        subst ePI
        refine wpAny_pyIter_list isl (wpAny_bind (wpAny_runValue ?_))
        have lt0 : l < s.heap.objs.size := Heap.lt_size lo
        have none3 : A.in1.in1.in1.handled = none := by simp [hh]
        have sz1 : (s.heap.push (eSet w)).objs.size = s.heap.objs.size + 1 := Heap.size_push ..
        have apart : l ≠ (s.heap.push (eSet w)).objs.size := by rw [sz1]; exact Nat.ne_of_lt (Nat.lt_succ_of_lt lt0)
        have notin : s.heap.objs.size ∉ [(s.heap.push (eSet w)).objs.size, l] := by
          rw [sz1]
          intro q
          rcases List.mem_cons.mp q with q | q
          · exact Nat.ne_of_lt (Nat.lt_succ_self _) q
          · exact Nat.ne_of_gt lt0 (List.mem_singleton.mp q)
        have vals : ∀ (i : Nat) (v : Value), items[i]? = some v → ∃ k t, ns[i]? = some k ∧ v = .int k t := fun i v hv => by
          have hi : i < ns.length := size_eq ▸ (Array.getElem?_eq_some_iff.mp hv).1
          obtain ⟨t, e⟩ := IntsAre.int_at hit i v (by rw [Array.getElem?_toList]; exact hv)
          exact ⟨_, t, List.getElem?_eq_getElem hi, by rw [e, List.getD_eq_getElem?_getD, List.getElem?_eq_getElem hi]; rfl⟩
        refine set_update_ints ((Walks.list none3 _ l apart items).toS) s.heap.objs.size notin ns size_eq hb vals (items.size - 0) 0 _ (by omega) (Nat.zero_le _) ⟨⟨_, Heap.get?_push_size _ rfl, rfl, rfl⟩, isl.push _⟩ ?first ?last
        case first => exact ⟨0, Nat.le_refl 0, setR_new_at (Heap.get?_push_of_some _ at0)⟩
        case last =>
          rintro ⟨h', g2, d2, t2, o2⟩ c2 mv hc2 R2
          have e1 : g2 = s.gens := mv.gens
          have e2 : d2 = s.drawn := mv.drawn
          have e3 : o2 = s.os := mv.os
          subst e1 e2 e3
          refine wpAny_pure (?_ : wpAny _ _ (ret Value.none) _ _ _)
          refine wpAny_pure ⟨rfl, h', t2, c2, rfl, R2, size_eq ▸ hc2, fun b o e => ?_⟩
          have lb : b < s.heap.objs.size := Heap.lt_size e
          refine mv.heap b o ?_ (Heap.get?_push_of_some _ (Heap.get?_push_of_some _ e))
          rw [sz1]
          intro q
          rcases List.mem_cons.mp q with q | q
          · exact Nat.ne_of_lt lb q
          · exact Nat.ne_of_lt (Nat.lt_succ_of_lt lb) (List.mem_singleton.mp q)
      · cases r2 with
        | error e => exact hr2
        | ok f2 =>
          cases f2 with
          | ret r =>
            obtain ⟨rfl, h', tk, c', rfl, R2, hc2, k2⟩ := hr2
            repeat (any_goals (first | assumption | wp_step))
            exact h _ _ _ R2 hc2 k2
          | _ => exact hr2.elim
    | _ => exact hr.elim
set_option maxHeartbeats 3200000 in
/-- sorted(a), a set of whole numbers, however many -/
theorem sorted_setN {a : Addr} {S : Int → Bool} {n : Nat} {Q : Value → Shared → Prop} (R : SetR w s.heap a S n) (hh : A.handled = none)
    (hQ : ∀ (z : Shared) (p : Addr) (out : Array Value) (c : Nat) (ns : List Int), (∀ b o, s.heap.get? b = some o → z.heap.get? b = some o) → z.gens = s.gens → z.os = s.os → s.heap.objs.size ≤ p → z.heap.get? p = some (seqObj "list" out c) → IntsAre out.toList ns → ns.Pairwise (· < ·) → (∀ k, k ∈ ns ↔ S k = true) → ns.length = n → Q (.ref p) z) :
    wpAny (model P w) A (call (.builtin "sorted") [.ref a]) Q E s := by
  obtain ⟨o, es, ep, t, ho, hex, hd, good, nodup, mem, bnd, fits, rfl, ris, led⟩ := R
  refine Calls.call_function_entry kind_sorted plain_sorted entry_sorted (args_sorted1 _) ?_
  unfold Builtin.«sorted»
  refine wpAny_bind (m := checkCount "sorted" 1 1 _) (wpAny_pure ?_)
  refine wpAny_bind (collect_set (A := A.in1) hh ⟨o, ho, hex.1, hd⟩ fits bnd ris led fun s1 vs k1 hz g1 o1 pm => ?_)
  have lenv : vs.length = es.size := by rw [pm.length_eq, List.length_map, Array.length_toList]
  have lenl : vs.length ≤ sizeLine := by rw [lenv]; exact fits_of_scanBound bnd
  have kints : IntsAre vs (vs.map Builtin.Re.reRawOf) := ints_of vs fun v hv => by
    obtain ⟨q, hq, rfl⟩ := List.mem_map.mp (pm.mem_iff.mp hv)
    obtain ⟨k, tk, h1, _⟩ := good q hq
    exact ⟨k, tk, h1⟩
  have keys : (vs.map Builtin.Re.reRawOf).Perm (es.toList.map keyOf) := by
    have q := pm.map Builtin.Re.reRawOf
    rwa [List.map_map] at q
  refine wpAny_bind (wpAny_newList ?_ lenl)
  have lst : (s1.heap.push (seqObj "list" vs.toArray 0)).get? s1.heap.objs.size = some (seqObj "list" vs.toArray 0) := Heap.get?_push_size _ rfl
  refine wpAny_bind (wpAny_holding (wpAny_call_entry slot_list_sort ⟨_, lst, rfl⟩ entry_list_sort (SrtO.list_sort_ord SrtO.swo_int lst lenl (fun h2 => SrtO.ints_sortable kints h2) fun out h1 h2 => ⟨_, rfl, ?_⟩) (args_list_sort _)))
  obtain ⟨u1, u2, u3⟩ := SrtO.ints_out kints h1 h2
  obtain ⟨c, hc⟩ := sortedHeap_at (vs := vs) (out := out.toArray) lst
  have pn := u2.trans keys
  have inc := lt_of_le_nodup _ u3 (pn.nodup_iff.mpr nodup)
  refine wpAny_pure ⟨_, rfl, hQ _ s1.heap.objs.size out.toArray c _ (fun b u e => ?_) g1 o1 hz hc (by simpa using u1) inc (fun k => by rw [pn.mem_iff, ← mem k]) ?_⟩
  · have lt := Heap.lt_size (k1 b u e)
    refine Eq.trans (sortedHeap_old (Nat.ne_of_lt lt) ?_) (Heap.get?_push_of_some _ (k1 b u e))
    rw [size_push']
    exact Nat.lt_succ_of_lt lt
  · rw [pn.length_eq, List.length_map, Array.length_toList]
end
/-! what is told: the numbers, each once, rising -/
def insS (x : Int) : List Int → List Int
  | [] => [x]
  | y :: ys => if x < y then x :: y :: ys else if x = y then y :: ys else y :: insS x ys
def sset (ns : List Int) : List Int := ns.foldr insS []
theorem insS_mem {x k : Int} : ∀ {l : List Int}, k ∈ insS x l ↔ k = x ∨ k ∈ l
  | [] => by simp [insS]
  | y :: ys => by
    unfold insS
    split
    · simp
    · split
      · rename_i e
        subst e
        simp
      · simp only [List.mem_cons, insS_mem (l := ys)]
        constructor
        · rintro (h | h | h)
          · exact .inr (.inl h)
          · exact .inl h
          · exact .inr (.inr h)
        · rintro (h | h | h)
          · exact .inr (.inl h)
          · exact .inl h
          · exact .inr (.inr h)
theorem insS_inc {x : Int} : ∀ {l : List Int}, l.Pairwise (· < ·) → (insS x l).Pairwise (· < ·)
  | [], _ => by simp [insS]
  | y :: ys, h => by
    obtain ⟨h1, h2⟩ := List.pairwise_cons.mp h
    unfold insS
    split
    · rename_i e
      exact List.pairwise_cons.mpr ⟨(fun z hz => (List.mem_cons.mp hz).elim (fun q => q ▸ e) fun q => Int.lt_trans e (h1 z q)), h⟩
    · split
      · exact h
      · exact List.pairwise_cons.mpr ⟨(fun z hz => (insS_mem.mp hz).elim (fun q => by omega) fun q => h1 z q), insS_inc h2⟩
theorem sset_inc : ∀ ns : List Int, (sset ns).Pairwise (· < ·)
  | [] => List.Pairwise.nil
  | n :: ns => insS_inc (sset_inc ns)
theorem sset_mem {k : Int} : ∀ {ns : List Int}, k ∈ sset ns ↔ k ∈ ns
  | [] => by simp [sset]
  | n :: ns => by
    show k ∈ insS n (sset ns) ↔ _
    rw [insS_mem, sset_mem (ns := ns), List.mem_cons]
theorem inc_ext : ∀ {xs ys : List Int}, xs.Pairwise (· < ·) → ys.Pairwise (· < ·) → (∀ k, k ∈ xs ↔ k ∈ ys) → xs = ys
  | [], [], _, _, _ => rfl
  | [], y :: ys, _, _, h => absurd ((h y).mpr List.mem_cons_self) (by simp)
  | x :: xs, [], _, _, h => absurd ((h x).mp List.mem_cons_self) (by simp)
  | x :: xs, y :: ys, hx, hy, h => by
    obtain ⟨x1, x2⟩ := List.pairwise_cons.mp hx
    obtain ⟨y1, y2⟩ := List.pairwise_cons.mp hy
    have e : x = y := by
      rcases List.mem_cons.mp ((h x).mp List.mem_cons_self) with e | e
      · exact e
      · rcases List.mem_cons.mp ((h y).mpr List.mem_cons_self) with e2 | e2
        · exact e2.symm
        · have := y1 x e
          have := x1 y e2
          omega
    subst e
    rw [inc_ext x2 y2 fun k => ?_]
    have hk := h k
    simp only [List.mem_cons] at hk
    constructor
    · intro hm
      rcases hk.mp (.inr hm) with e | e
      · subst e; have := x1 k hm; omega
      · exact e
    · intro hm
      rcases hk.mpr (.inr hm) with e | e
      · subst e; have := y1 k hm; omega
      · exact e
/-! ### as expressions -/
def tSetN (K : PySem.W.Frag) (ta : TE) (lim : Nat) (R : List Int → VK → Hp → Prop) : TE := fun σ H Q => ta σ H fun x H1 => ∃ (l : Addr) (ns : List Int), x = .ref l ∧ SqL K H1 l (ns.map V.int) ∧ ns.length ≤ lim ∧ R ns Q H1
section
variable {X : Cx} {a : Expr} {ta : TE} {p p2 q pos : Pos}
theorem pe_sortSetN (hg : Gl X "sorted") (hm : X.mg "sorted" = none) (hg2 : Gl X "set") (hm2 : X.mg "set" = none) (ha : PE X a ta) (hc : X.calm = true) (na : starEach [a] X.env = (false, eval a X.env) :: starEach [] X.env) :
    PE X (.Call (.Name "sorted" p) [.Call (.Name "set" p2) [a] [] q] [] pos) (tSetN X.K ta 4000 fun ns Q H => ∀ b, H b = none → Q (.ref b) (upd H b (.lst ((sset ns).map V.int)))) := by
  refine ⟨fun pins s σ H Q I h => ?_⟩
  refine Call_ (ld_blt I hg hm boot_sorted (PyProof.Rows.callWith_builtin1 (PyProof.Rows.args_cons ?_ rfl) rfl rfl))
  refine Call_ (ld_blt I hg2 hm2 boot_set (PyProof.Rows.callWith_type1 (PyProof.Rows.args_cons (thn (ha.run pins s σ H _ I h) fun v s1 ⟨x, H1, I1, r1, q1⟩ => PyProof.Rows.args_nil ?_) na) na rfl))
  obtain ⟨l, ns, rfl, hq, hl, q1⟩ := q1
  cases r1
  obtain ⟨its, r, pl, hz⟩ := I1.list hq
  refine set_lst ns (I1.ok.hd hc) pl.isList (by simpa using RZ.intsAre_vals r) (by unfold scanBound; omega) fun h' tk c hS hcn hk => PyProof.Rows.args_nil ?_
  refine sorted_setN (s := { s1 with heap := h', toks := tk }) hS (I1.ok.hd hc) fun z b out c2 ns' kz gz oz hb hz2 hi inc mem hlen => ?_
  have e : ns' = sset ns := inc_ext inc (sset_inc ns) fun k => by rw [mem k, sset_mem, decide_eq_true_eq]
  subst e
  have I2 : Inv X pins σ H1 { s1 with heap := h', toks := tk } := I1.kept hk
  have hn : H1 b = none := I2.hok.fresh hb
  have short : ((sset ns).map V.int).length ≤ sizeLine := by rw [List.length_map, hlen, sizeLine_eq]; omega
  exact ⟨.ref b, upd H1 b (.lst ((sset ns).map V.int)), I2.call' (ch := []) oz (Un.laid kz hb hn) (I2.hok.laid kz hb ⟨short, out.toList, c2, vals_of_ints hi, hz2⟩) (by rw [gz]; exact I2.bare) (fun _ z => nomatch z), rfl, q1 b hn⟩
end
/-! typed -/
section
variable {X : Cx} {B : Base} {S S1 S2 S3 : Stt} {x y z : Slot} {a b e o : Expr} {es : List Expr} {pos apos p p2 q : Pos}
def setG (ns : List Int) : Option (List Int) := if ns.length ≤ 4000 then some (sset ns) else none
theorem setG_of {ns r : List Int} (h : setG ns = some r) : ns.length ≤ 4000 ∧ r = sset ns := by
  unfold setG at h
  by_cases c : ns.length ≤ 4000
  · rw [if_pos c] at h; cases h; exact ⟨c, rfl⟩
  · rw [if_neg c] at h; cases h
theorem lv_ints {ns : List Int} {x : Slot} {K : PySem.W.Frag} (hl : Lv K B S x (ns.map Slot.val)) {T : List Slot} {σ : L2.St} {v : V} {tv : List V} {H G : Hp} {as bs : List Addr} (z : St0 B S (x :: T) σ (v :: tv) H G as bs) : ∃ l, v = .ref l ∧ SqL K H l (ns.map V.int) := by
  obtain ⟨l, vs, rfl, hq, hs⟩ := hl z
  have e : vs = ns.map V.int := by
    have key : ∀ {ns : List Int} {vs : List V}, SsI G H (ns.map Slot.val) vs [] → vs = ns.map V.int := fun {ns} => by
      induction ns with
      | nil => intro vs h; cases h; rfl
      | cons n ns ih =>
        intro vs h
        cases vs with
        | nil => cases h
        | cons v vs =>
          obtain ⟨h1, h2⟩ := h.cons_nil
          have hd := sl_dq h1
          cases (show Dq _ _ (PyData.int n) from hd)
          rw [ih h2]
          rfl
    exact key hs
  exact ⟨l, rfl, e ▸ hq⟩
theorem je_sortSet {ns r : List Int} (hm : X.mg "sorted" = none) (hm2 : X.mg "set" = none) (ha : JE X B S a S1 x) (hl : Lv X.K B S1 x (ns.map Slot.val)) (h : setG ns = some r) (hc : X.calm = true := by rfl) (hg : Gl X "sorted" := by rfl) (hg2 : Gl X "set" := by rfl) (na : starEach [a] X.env = (false, eval a X.env) :: starEach [] X.env := by rfl) :
    JE X B S (.Call (.Name "sorted" p) [.Call (.Name "set" p2) [a] [] q] [] pos) S1 (.own (.lst (r.map Slot.val))) := fun T tv σ H Q hs kq =>
  pe1 (pe_sortSetN hg hm hg2 hm2 pe0 hc na) (ha _ _ _ _ _ hs fun v H1 h1 => by
    obtain ⟨G, as, bs, z⟩ := id h1
    obtain ⟨l, rfl, hq⟩ := lv_ints hl z
    obtain ⟨hl4, rfl⟩ := setG_of h
    refine ⟨l, ns, rfl, hq, hl4, fun b hb => ?_⟩
    obtain ⟨G2, as2, bs2, z2⟩ := h1.drop
    refine kq _ _ (z2.newO hb (.lst ?_))
    have key : ∀ (K2 : Hp) (ns : List Int), SsI G2 K2 (ns.map Slot.val) (ns.map V.int) [] := fun K2 ns => by
      induction ns with
      | nil => exact .nil
      | cons n ns ih => exact .cons (as := []) (sl_int n) ih
    exact key _ _)
end
end J
namespace J
universe u w
open PySem L2
open PySem.W (Datum DatumOrd Holds HoldAll T3 T4 Tup)
/-! ### a tuple's part by a written number; tuple(xs) -/
theorem bndE {α β : Type} {m : Option α} {f : α → Option β} {r : β} (h : m.bind f = some r) : ∃ x, m = some x ∧ f x = some r := by
  cases m with
  | none => cases h
  | some x => exact ⟨x, rfl, h⟩
end J
namespace J
open PySem PySem.Spec PyProof.Rows L2
open PySem.W (Datum Tup)
section
variable {X : Cx} {B : Base} {S S1 S2 S3 : Stt} {x y z : Slot} {a b e o : Expr} {es : List Expr} {pos apos : Pos} {D : FE} {rest : List Stmt} {kk : Nat} {tg : Expr} {p : Addr}
/-! ### xs * n -/
/-! ### comprehensions over items of several kinds -/
def e2 {α β : Type} [DecidableEq α] [Datum α] [DecidableEq β] [Datum β] : Sum α β → Slot
  | .inl x => .val x
  | .inr x => .val x
end
end J
namespace J
open PySem PySem.Spec PyProof.Rows L2
open PySem.W (Datum Tup)
/-! ### dicts by whole numbers -/
abbrev dks {β : Type} (m : List (Int × β)) : List Key := m.map fun q => Sum.inl q.1
abbrev dss {β : Type} [DecidableEq β] [Datum β] (m : List (Int × β)) : List Slot := m.map fun q => Slot.val q.2
def dget {β : Type} (m : List (Int × β)) (k : Int) : Option β := (m.find? fun q => decide (q.1 = k)).map (·.2)
def dput {β : Type} (m : List (Int × β)) (k : Int) (v : β) : List (Int × β) := if (m.any fun q => decide (q.1 = k)) = true then m.map (fun q => if q.1 = k then (q.1, v) else q) else m ++ [(k, v)]
def dputG {β : Type} (m : List (Int × β)) (k : Int) (v : β) : Option (List (Int × β)) := if m.length < 16777216 then some (dput m k v) else none
section
variable {β : Type} [DecidableEq β] [Datum β] {G H : Hp}
theorem dget_rel (k : Int) : ∀ {m : List (Int × β)} {gs : List (Key × V)} {as : List Addr}, dks m = gs.map (·.1) → SsI G H (dss m) (gs.map (·.2)) as → (dget m k = none ∧ valV gs (Sum.inl k) = none) ∨ ∃ t u, dget m k = some t ∧ valV gs (Sum.inl k) = some u ∧ SlI G H (.val t) u []
  | [], [], _, _, _ => .inl ⟨rfl, rfl⟩
  | [], _ :: _, _, h, _ => by simp [dks] at h
  | _ :: _, [], _, h, _ => by simp [dks] at h
  | q :: m, g :: gs, as, h, hs => by
    have h1 : (Sum.inl q.1 : Key) = g.1 := (List.cons.inj h).1
    have h2 : dks m = gs.map (·.1) := (List.cons.inj h).2
    cases hs with
    | cons s1 hs =>
      by_cases e : q.1 = k
      · have hg : g.1 = Sum.inl k := by rw [← h1, e]
        obtain rfl := SlI.nil s1 rfl
        refine .inr ⟨q.2, g.2, ?_, valV_pos hg, s1⟩
        unfold dget
        rw [List.find?_cons, decide_eq_true e]
        rfl
      · have hg : ¬ g.1 = Sum.inl k := by rw [← h1]; exact fun q2 => e (Sum.inl.inj q2)
        rw [valV_neg hg]
        have : dget (q :: m) k = dget m k := by
          unfold dget
          rw [List.find?_cons, decide_eq_false e]
        rw [this]
        exact dget_rel k h2 hs
theorem any_rel (k : Int) : ∀ {m : List (Int × β)} {gs : List (Key × V)}, dks m = gs.map (·.1) → (gs.any fun kv => decide (kv.1 = Sum.inl k)) = m.any fun q => decide (q.1 = k)
  | [], [], _ => rfl
  | [], _ :: _, h => by simp [dks] at h
  | _ :: _, [], h => by simp [dks] at h
  | q :: m, g :: gs, h => by
    have h1 : (Sum.inl q.1 : Key) = g.1 := (List.cons.inj h).1
    rw [List.any_cons, List.any_cons, any_rel k (List.cons.inj h).2, ← h1]
    congr 1
    rw [decide_eq_decide]
    exact ⟨Sum.inl.inj, fun e => by rw [e]⟩
theorem set_rel (k : Int) {v : β} {u : V} (hv : SlI G H (.val v) u []) : ∀ {m : List (Int × β)} {gs : List (Key × V)} {as : List Addr}, dks m = gs.map (·.1) → SsI G H (dss m) (gs.map (·.2)) as → dks (m.map fun q => if q.1 = k then (q.1, v) else q) = (gs.map fun kv => if kv.1 = Sum.inl k then (kv.1, u) else kv).map (·.1) ∧ SsI G H (dss (m.map fun q => if q.1 = k then (q.1, v) else q)) ((gs.map fun kv => if kv.1 = Sum.inl k then (kv.1, u) else kv).map (·.2)) []
  | [], [], _, _, _ => ⟨rfl, .nil⟩
  | [], _ :: _, _, h, _ => by simp [dks] at h
  | _ :: _, [], _, h, _ => by simp [dks] at h
  | q :: m, g :: gs, as, h, hs => by
    have h1 : (Sum.inl q.1 : Key) = g.1 := (List.cons.inj h).1
    cases hs with
    | cons s1 hs =>
      obtain ⟨i1, i2⟩ := set_rel k hv (List.cons.inj h).2 hs
      simp only [List.map_cons] at i1 i2 ⊢
      by_cases e : q.1 = k
      · have hg : g.1 = Sum.inl k := by rw [← h1, e]
        rw [if_pos e, if_pos hg]
        exact ⟨congr (congrArg List.cons h1) i1, .cons (as := []) hv i2⟩
      · have hg : ¬ g.1 = Sum.inl k := by rw [← h1]; exact fun q2 => e (Sum.inl.inj q2)
        rw [if_neg e, if_neg hg]
        obtain rfl := SlI.nil s1 rfl
        exact ⟨congr (congrArg List.cons h1) i1, .cons (as := []) s1 i2⟩
theorem put_rel (k : Int) {v : β} {u : V} (hv : SlI G H (.val v) u []) {m : List (Int × β)} {gs : List (Key × V)} (h : dks m = gs.map (·.1)) (hs : SsI G H (dss m) (gs.map (·.2)) []) : dks (dput m k v) = (putK gs (Sum.inl k) u).map (·.1) ∧ SsI G H (dss (dput m k v)) ((putK gs (Sum.inl k) u).map (·.2)) [] := by
  unfold dput putK
  rw [any_rel k h]
  by_cases c : (m.any fun q => decide (q.1 = k)) = true
  · rw [if_pos c, if_pos c]
    exact set_rel k hv h hs
  · rw [if_neg c, if_neg c]
    refine ⟨by unfold dks at h ⊢; rw [List.map_append, List.map_append, h]; rfl, ?_⟩
    show SsI G H (List.map _ (m ++ [(k, v)])) _ _
    rw [List.map_append, List.map_append]
    exact SsI.app hs (.cons (as := []) hv .nil)
theorem dss_plain (m : List (Int × β)) : ∀ s ∈ dss m, s.plain = true := fun s hs => by
  obtain ⟨q, _, rfl⟩ := List.mem_map.mp hs
  rfl
end
section
variable {X : Cx} {B : Base} {S S1 S2 S3 : Stt} {x y z : Slot} {a b e o : Expr} {es : List Expr} {pos apos : Pos} {D : FE} {rest : List Stmt} {kk : Nat} {tg : Expr} {p : Addr} {β : Type} [DecidableEq β] [Datum β] {m : List (Int × β)} {key : Int}
theorem small16 {n : Nat} (h : n < 16777216) : n < sizeLine := by rw [sizeLine_eq]; omega
/-- d[i] = e -/
theorem js_dputI (k : Nat) {t : β} {m' : List (Int × β)} {i : Expr} {pos' : Pos} (hr : Room kk X.A) (he : JE X B S e S1 (.val t)) (ho : JE X B S1 o S2 (.v (.ref p))) (hi : JE X B S2 i S3 (.val key)) (hk : S3.cs[k]? = some (p, .dk (dks m) (dss m))) (hm : dputG m key t = some m') (kx : JS X B ⟨S3.sl, S3.cs.set k (p, .dk (dks m') (dss m'))⟩ rest D)
    (hs : swapsWith e (some (.Subscript o i pos')) pos.line X.env = pure false := by rfl) : JS X B S (.Assign [.Subscript o i pos'] e pos :: rest) D :=
  js_step (ps_dput (hu_of hr) pe0 pe0 pe0 hs) fun T tv σ H h => he _ _ _ _ _ h fun v H1 h1 => ho _ _ _ _ _ h1 fun w1 H2 h2 => by
    have e := h2.exact
    subst e
    refine hi _ _ _ _ _ h2 fun w2 H3 h3 => ?_
    have e := h3.int
    subst e
    obtain ⟨G, as, bs, z0⟩ := h3.drop.drop
    obtain ⟨a1, a2, rfl, hs1, z⟩ := z0.pop
    obtain rfl := hs1.nil rfl
    obtain ⟨oo, mm, hpp, hc, _, hm1, _, reb⟩ := z.cellW hk (by intro e; cases e)
    cases hc with
    | @dk _ _ gs _ hks hss =>
      obtain rfl := hss.plain (dss_plain m)
      unfold dputG at hm
      split at hm
      · rename_i hlt
        cases hm
        have hlen : gs.length = m.length := by
          have := congrArg List.length hks
          rw [List.length_map, List.length_map] at this
          exact this.symm
        obtain ⟨e1, e2⟩ := put_rel key hs1 hks hss
        have hnew : CeI G (upd H3 p (.dK (putK gs (Sum.inl key) v))) (.dk (dks (dput m key t)) (dss (dput m key t))) (.dK (putK gs (Sum.inl key) v)) [] := .dk e1 (SsI.mono e2 (Ex.refl G) fun a ha => nomatch ha)
        obtain ⟨bs', z3⟩ := reb hnew (List.Sublist.refl _)
        exact ⟨p, _, rfl, DPut.k (k := Sum.inl key) hpp (small16 (by omega)), kx _ _ _ _ z3.sta⟩
      · cases hm
end
/-! ### xs[::-1]; isinstance of data -/
theorem SsI.rev {G H H' : Hp} {ss : List Slot} {vs : List V} (hs : SsI G H ss vs []) : SsI G H' ss.reverse vs.reverse [] :=
  SsI.of_get (by rw [List.length_reverse, List.length_reverse, hs.len]) fun i s u h1 h2 => by
    have hl := hs.len
    have hi : i < ss.length := by
      have := (List.getElem?_eq_some_iff.mp h1).1
      rwa [List.length_reverse] at this
    rw [List.getElem?_reverse hi] at h1
    rw [List.getElem?_reverse (by omega)] at h2
    obtain ⟨u', e1, su⟩ := hs.get _ h1
    rw [← hl, e1] at h2
    cases h2
    exact su.any'
section
variable {X : Cx} {B : Base} {S S1 S2 S3 : Stt} {x y z : Slot} {a b e o : Expr} {es : List Expr} {pos apos : Pos} {D : FE} {rest : List Stmt} {kk : Nat}
/-- {}, a dict by whole numbers -/
theorem je_disp0 {β : Type} [DecidableEq β] [Datum β] : JE X B S (.Dict [] [] pos) S (.own (.dk (dks ([] : List (Int × β))) (dss ([] : List (Int × β))))) := fun T tv σ H Q hs q =>
  pe1 pe_dnewK (fun p hp => by
    obtain ⟨G, as, bs, z⟩ := hs
    exact q _ _ (z.newO hp (.dk rfl .nil)))
end
end J
namespace J
open PySem PySem.Spec PyProof.Rows L2
open PySem.W (Datum Tup)
section
variable {X : Cx} {B : Base} {S S1 S2 S3 : Stt} {x y z : Slot} {a b c e o : Expr} {es : List Expr} {pos apos cpos : Pos} {D : FE} {rest : List Stmt} {kk : Nat} {tg : Expr} {p : Addr} {β : Type} [DecidableEq β] [Datum β] {m : List (Int × β)} {key : Int}
/-! ### a dict that is walked -/
def Stt.frz (S : Stt) (k : Nat) (p : Addr) (ob : Obj) (gs : List (Key × V)) (ss : List Slot) : Stt := ⟨S.sl, S.cs.set k (p, .fdk ob gs ss)⟩
theorem set_back {α : Type _} {l : List α} {k : Nat} {a b : α} (h : l[k]? = some b) : (l.set k a).set k b = l := by
  rw [List.set_set]
  apply List.ext_getElem?
  intro n
  rw [List.getElem?_set]
  by_cases e : k = n
  · subst e
    obtain ⟨hl, _⟩ := List.getElem?_eq_some_iff.mp h
    rw [if_pos rfl, if_pos hl, h]
  · rw [if_neg e]
theorem je_lockD (k : Nat) (hk : S.cs[k]? = some (p, .dk (dks m) (dss m))) (h : ∀ ob gs, dks m = gs.map (·.1) → JE X B ⟨S.sl, S.cs.set k (p, .fdk ob gs (dss m))⟩ e ⟨S.sl, S.cs.set k (p, .fdk ob gs (dss m))⟩ x) : JE X B S e S x := fun T tv σ H Q hs q => by
  obtain ⟨G, as, bs, z⟩ := hs
  obtain ⟨oo, mm, hpp, hc, _, _, _, reb⟩ := z.cellW hk (by intro e; cases e)
  cases hc with
  | @dk _ _ gs _ hks hss =>
    obtain rfl := hss.plain (dss_plain m)
    refine pe1 (pe_lock pe0) ⟨p, .dK gs, hpp, trivial, fun od => ?_⟩
    have hnew : CeI G (upd H p (.frz od (.dK gs))) (.fdk od gs (dss m)) (.frz od (.dK gs)) [] := .fdk (SsI.mono hss (Ex.refl G) fun a ha => nomatch ha)
    obtain ⟨bs', z3⟩ := reb hnew (List.Sublist.refl _)
    refine h od gs hks _ _ _ _ _ z3.sta fun v H' h2 => ?_
    obtain ⟨G2, as2, bs2, z4⟩ := h2
    have hk2 : (S.cs.set k (p, .fdk od gs (dss m)))[k]? = some (p, .fdk od gs (dss m)) := by
      obtain ⟨hl, _⟩ := List.getElem?_eq_some_iff.mp hk
      rw [List.getElem?_set, if_pos rfl, if_pos hl]
    obtain ⟨oo2, mm2, hpp2, hc2, _, _, _, reb2⟩ := z4.cellW hk2 (by intro e; cases e)
    cases hc2 with
    | @fdk _ _ _ _ hss2 =>
      obtain rfl := hss2.plain (dss_plain m)
      have hnew2 : CeI G2 (upd H' p (.dK gs)) (.dk (dks m) (dss m)) (.dK gs) [] := .dk hks (SsI.mono hss2 (Ex.refl G2) fun a ha => nomatch ha)
      obtain ⟨bs3, z5⟩ := reb2 hnew2 (List.Sublist.refl _)
      refine ⟨hpp2, q _ _ ?_⟩
      have := z5.sta
      rwa [set_back hk] at this
theorem ji_dkeys (k : Nat) {ob : Obj} {gs : List (Key × V)} (hks : dks m = gs.map (·.1)) (ha : JE X B S e S1 (.v (.ref p))) (hk : S1.cs[k]? = some (p, .fdk ob gs (dss m))) : JI X B S tg e S1 [.v (.ref p)] ((m.map (·.1)).map Slot.val) (fun S => S.cs[k]? = some (p, .fdk ob gs (dss m))) := fun T tv σ H R hs q =>
  pi1 (pi_keys pe0) (ha _ _ _ _ _ hs fun v H1 h1 => by
    have e := h1.exact
    subst e
    have at_ : ∀ {S : Stt} {T : List Slot} {σ : L2.St} {tv : List V} {H : Hp}, S.cs[k]? = some (p, .fdk ob gs (dss m)) → Sta B S T σ tv H → H p = some (.frz ob (.dK gs)) := fun {S T σ tv H} hk h => by
      obtain ⟨G, as, bs, z⟩ := h
      obtain ⟨oo, mm, hpp, hc, _, _, _, _⟩ := z.cellW hk (by intro e; cases e)
      cases hc with
      | @fdk _ _ _ _ hss => exact hpp
    have hl : gs.length = m.length := by
      have := congrArg List.length hks
      rw [List.length_map, List.length_map] at this
      exact this.symm
    have hp1 := at_ hk h1
    refine ⟨p, ob, rfl, .inl ⟨gs, hp1, q (Itk p ob gs) [.ref p] H1 rfl h1 ⟨fun S T σ tv H i s hS hi h => ?_, fun S T σ tv H hS h => ?_⟩⟩⟩
    · have hpp := at_ hS h
      rw [List.getElem?_map, List.getElem?_map] at hi
      cases qe : m[i]? with
      | none => rw [qe] at hi; cases hi
      | some pr =>
        rw [qe] at hi
        cases hi
        obtain ⟨hlt, _⟩ := List.getElem?_eq_some_iff.mp qe
        refine ⟨⟨hpp, by omega⟩, fun v H' hy => ?_⟩
        obtain ⟨rfl, k', v', hg, rfl⟩ := hy
        have e1 : (dks m)[i]? = some (Sum.inl pr.1) := by unfold dks; rw [List.getElem?_map, qe]; rfl
        rw [hks, List.getElem?_map, hg] at e1
        have e1 : k' = Sum.inl pr.1 := Option.some.inj e1
        subst e1
        exact h.push fun _ _ => sl_int _
    · exact ⟨at_ hS h, by rw [List.length_map, List.length_map]; omega⟩)
/-- d[i] while d is walked -/
theorem je_dgetF (k : Nat) {t : β} {i : Expr} {ob : Obj} {gs : List (Key × V)} (hks : dks m = gs.map (·.1)) (hr : Room kk X.A) (ho : JE X B S o S1 (.v (.ref p))) (hi : JE X B S1 i S2 (.val key)) (hk : S2.cs[k]? = some (p, .fdk ob gs (dss m))) (ht : dget m key = some t) (hns : NoSl i := by exact fun _ _ => rfl) : JE X B S (.Subscript o i pos) S2 (.val t) := fun T tv σ H Q h q =>
  pe1 (pe_dget (hu_of hr) pe0 pe0 hns) (ho _ _ _ _ _ h fun v1 H1 h1 => by
    have e := h1.exact
    subst e
    refine hi _ _ _ _ _ h1 fun v2 H2 h2 => ?_
    have e := h2.int
    subst e
    obtain ⟨G, as, bs, z⟩ := h2.drop.drop
    obtain ⟨oo, mm, hpp, hc, _, _, _, _⟩ := z.cellW hk (by intro e; cases e)
    cases hc with
    | @fdk _ _ _ _ hss =>
      rcases dget_rel key hks hss with ⟨e1, _⟩ | ⟨t', u, e1, e2, su⟩
      · rw [e1] at ht; cases ht
      · rw [e1] at ht
        cases ht
        exact ⟨p, u, rfl, .inl ⟨gs, Sum.inl key, .inr ⟨ob, hpp⟩, rfl, e2.symm⟩, q _ _ (z.push su)⟩)
/-! ### sorted -/
theorem ss_ints {G H : Hp} : ∀ {xs : List Int} {vs : List V} {as : List Addr}, SsI G H (xs.map Slot.val) vs as → vs = xs.map V.int
  | [], _, _, h => by cases h; rfl
  | t :: xs, _, _, h => by
    cases h with
    | @cons _ v m _ vs a2 h1 h2 =>
      cases (show Dq G v (.int t) from sl_dq h1)
      rw [ss_ints h2]
      rfl
theorem ss_of_ints {G H : Hp} : ∀ xs : List Int, SsI G H (xs.map Slot.val) (xs.map V.int) []
  | [] => .nil
  | t :: xs => .cons (as := []) (sl_int t) (ss_of_ints xs)
/-! ### list(range(a, b, c)) -/
/-! ### isinstance -/
end
end J
namespace J
open PySem PySem.Spec PyProof.Rows L2
open PySem.W (Datum Tup)
/-! ### objects of classes: fields -/
end J
namespace J
open PySem PySem.Spec PyProof.Rows L2
open PySem.W (Datum Tup)
/-! ### values put in another order -/
end J
namespace J
open PySem PySem.Spec PyProof.Rows L2
open PySem.W (Datum Tup)
end J
namespace J
open PySem L2
open PySem.Spec PyProof.Rows
open PySem.W (Datum)
/-! ### a zip whose handed out tuple is kept by somebody: at z, with any marks -/
end J
namespace J
open PySem L2
open PySem.W (Datum)
/-! ### refusals: made, raised, passed on, caught, held behind the suite -/
def ExA (a : Addr) (cls : Value) (d : Option Addr) : Heap → Prop := fun h => ∃ oe vs, h.get? a = some oe ∧ oe.cls = cls ∧ oe.dict = d ∧ oe.data = .fields vs ∧ vs[2]? = some .none
end J
namespace J
open PySem PySem.Spec PyProof.Rows L2
end J
namespace J
open PySem L2
open PySem.W (Datum)
abbrev exa (a : Addr) (cls : Value) (d : Option Addr) : HO := .ext (ExA a cls d)
section
variable {α : Type} [DecidableEq α] [Datum α]
/-- a refusal of the class at C, that bears w -/
def Xc (C : Addr) (w : α) : Hp → V → Prop := fun G u => ∃ (a d : Addr) (v : V), u = .ref a ∧ G a = some (exa a (.ref C) (some d)) ∧ G d = some (.xd [(("what" : Str), v)]) ∧ Dq G v (Datum.toD w)
end
/-! the maker -/
/-! a def that refuses -/
end J
namespace J
open PySem L2
open PySem.W (Datum)
end J
namespace J
open PySem L2
open PySem.W (Datum)
/-! ### try at states; what a refusal tells -/
section
variable {α : Type} [DecidableEq α] [Datum α]
/-- a refusal by name: those that there are, where their classes stand -/
structure Xw where
  ns : List Str
  xc : Str → Addr
def XcN (K : Xw) (x : Str × α) : Hp → V → Prop := fun G u => x.1 ∈ K.ns ∧ Xc (K.xc x.1) x.2 G u
def xsl (K : Xw) : Option (Str × α) → Slot
  | none => .v .non
  | some x => .say (XcN K x)
end
end J
namespace J
open PySem L2
open PySem.W (Datum)
/-! ### isinstance and .what of a refusal -/
/-- names that stand for classes -/
inductive NmL (X : Cx) : List Expr → List V → List Value → Prop where
  | nil : NmL X [] [] []
  | own {n : Str} {p : Pos} {C : Addr} {es : List Expr} {cs : List V} {us : List Value} (hg : Gl X n) (hm : X.mg n = some (.ref C)) (hd : (n == ("__debug__" : Str)) = false) (r : NmL X es cs us) : NmL X (.Name n p :: es) (.ref C :: cs) (.ref C :: us)
theorem NmL.cls {X : Cx} {es : List Expr} {cs : List V} {us : List Value} (h : NmL X es cs us) : Paired ClsV cs us := by
  induction h with
  | nil => exact .nil
  | own _ _ _ _ ih => exact .cons (.own _) ih
theorem NmL.len {X : Cx} {es : List Expr} {cs : List V} {us : List Value} (h : NmL X es cs us) : cs.length = es.length := by
  induction h with
  | nil => rfl
  | own _ _ _ _ ih => exact congrArg Nat.succ ih
abbrev Xw.all (K : Xw) : List Str := ("PageError" : Str) :: K.ns
end J
namespace J
open PySem L2
open PySem.W (Datum)
/-! ### the head's part: what the written part says of the refusals, asked once -/
abbrev oo (a b : Option (Option Value)) : Bool := decide (a = b)
end J
namespace J
open PySem L2
open PySem.W (Datum)
/-! ### try and refusals in the mirrors -/
theorem xsl_plain {α : Type} [DecidableEq α] [Datum α] {K : Xw} {o : Option (Str × α)} : (xsl K o).plain = true := by cases o <;> rfl
end J
namespace J
open PySem L2 LamX
open PySem.Spec PyProof.Rows
open PySem.W (Datum)
/-! ### a lambda of one parameter -/
end J
namespace J
open PySem L2 LamX
open PySem.Spec PyProof.Rows
open PySem.W (Datum)
/-! ### a lambda as a value; the table of code objects as a cell -/
end J
namespace J
open PySem L2 LamX
open PySem.Spec PyProof.Rows
open PySem.W (Datum)
/-! ### max(xs, key=f): the turns -/
section
variable {X : Cx} {pins : List (Addr × Obj)} {σ : L2.St} {Ψ : Hp → Prop} {ws : List V} {kf : Nat → Int} {l f I S : Addr} {R : Result → Shared → Prop}
theorem two_moved {H : Hp} {s : Shared} {g : Heap} {tk : Nat} (V : Inv X pins σ H s) (fI : FpOk X pins H I) (fS : FpOk X pins H S) (k : ∀ b o, b ≠ I → b ≠ S → s.heap.get? b = some o → g.get? b = some o) : Inv X pins σ H { s with heap := g, toks := tk } :=
  V.turnedL (ch := [I, S]) (fun b o hb e => k b o (fun z => hb (by simp [z])) (fun z => hb (by simp [z])) e) fun b hb => by
    have e : b = I ∨ b = S := by simpa using hb
    rcases e with e | e <;> rw [e] <;> assumption
/-- what stands at a turn -/
structure MaxAt (X : Cx) (pins : List (Addr × Obj)) (σ : L2.St) (Ψ : Hp → Prop) (l I S : Addr) (H : Hp) (n : Nat) (data : Array Value) (s : Shared) : Prop where
  inv : Inv X pins σ H s
  psi : Ψ H
  fI : FpOk X pins H I
  fS : FpOk X pins H S
  ne : S ≠ I
  it : s.heap.IsListIter I l n
  acc : ∃ c, s.heap.get? S = some (seqObj "list" data c)
theorem MaxAt.lI {H : Hp} {n : Nat} {data : Array Value} {s : Shared} (m : MaxAt X pins σ Ψ l I S H n data s) (hl : ∀ (H : Hp) (s : Shared), Inv X pins σ H s → Ψ H → ∃ its : List Value, Vals ws its ∧ s.heap.IsList l its.toArray) : l ≠ I := fun e => by
  obtain ⟨o, h1, h2, _⟩ := m.it
  obtain ⟨its, _, o2, h3, h4, _⟩ := hl H s m.inv m.psi
  rw [e, h1] at h3
  rw [← Option.some.inj h3, h2] at h4
  exact absurd h4 (by decide)
theorem MaxAt.next {H : Hp} {n : Nat} {data : Array Value} {s : Shared} {y : V} {Q : Option Value → Shared → Prop} {E : Value → Shared → Prop} (hc : X.A.handled = none) (hl : ∀ (H : Hp) (s : Shared), Inv X pins σ H s → Ψ H → ∃ its : List Value, Vals ws its ∧ s.heap.IsList l its.toArray) (m : MaxAt X pins σ Ψ l I S H n data s) (hv : ws[n]? = some y) (hQ : ∀ v s', RelV y v → MaxAt X pins σ Ψ l I S H (n + 1) data s' → Q (some v) s') :
    wpAny (model X.prog X.w) X.A.in1 (pyNext (.ref I)) Q E s := by
  obtain ⟨its, rv, isl⟩ := hl _ _ m.inv m.psi
  have Wk := Walks.list (prog := X.prog) (w := X.w) (A := X.A.in1) hc I l (m.lI hl) its.toArray
  obtain ⟨v, e1, e2⟩ := rv.get hv
  have hlt : n < its.length := (List.getElem?_eq_some_iff.mp e1).1
  refine Wk.item n _ _ _ (by simpa using hlt) ⟨m.it, isl⟩ fun v' g tk hP st hk => ?_
  have e : v' = v := by
    have : its[n]? = some v' := by simpa using hP
    rw [e1] at this
    exact (Option.some.inj this).symm
  subst e
  obtain ⟨c, hS⟩ := m.acc
  exact hQ _ _ e2 ⟨two_moved m.inv m.fI m.fS fun b o h1 _ e => hk b o (by simpa using h1) e, m.psi, m.fI, m.fS, m.ne, st.1, ⟨c, hk S _ (by simpa using m.ne) hS⟩⟩
end
end J
namespace J
open PySem L2 LamX
open PySem.Spec PyProof.Rows
open PySem.W (Datum)
/-! ### max(xs, key=lambda p: ..) of whole numbers -/
end J
namespace J
open PySem L2 LamX
open PySem.Spec PyProof.Rows
open PySem.W (Datum)
/-! ### defs whose code object is known; the head with tables -/
end J
namespace J
open PySem L2
open PySem.Spec PyProof.Rows
open PySem.W (Datum)
/-! ### sorted of numbers; range by steps as what a for goes over -/
def sortI (xs : List Int) : List Int := xs.mergeSort fun a b => decide (a ≤ b)
theorem sortI_eq {xs ys : List Int} (hp : ys.Perm xs) (hs : ys.Pairwise (· ≤ ·)) : ys = sortI xs :=
  List.Perm.eq_of_pairwise (le := fun a b => (fun a b : Int => decide (a ≤ b)) a b = true) (fun a b _ _ h1 h2 => by
    have h1 := of_decide_eq_true h1
    have h2 := of_decide_eq_true h2
    omega) (hs.imp fun h => decide_eq_true h) (List.pairwise_mergeSort (fun a b c h1 h2 => by
    have h1 := of_decide_eq_true h1
    have h2 := of_decide_eq_true h2
    exact decide_eq_true (by omega)) (fun a b => by
    rw [Bool.or_eq_true, decide_eq_true_eq, decide_eq_true_eq]
    omega) xs) (hp.trans (List.mergeSort_perm xs _).symm)
theorem sortI_perm (xs : List Int) : (sortI xs).Perm xs := List.mergeSort_perm xs _
theorem sortI_srt (xs : List Int) : (sortI xs).Pairwise (· ≤ ·) := by
  have h := List.pairwise_mergeSort (le := fun a b : Int => decide (a ≤ b)) (fun a b c h1 h2 => by
    have h1 := of_decide_eq_true h1
    have h2 := of_decide_eq_true h2
    exact decide_eq_true (by omega)) (fun a b => by
    rw [Bool.or_eq_true, decide_eq_true_eq, decide_eq_true_eq]
    omega) xs
  exact h.imp fun h => of_decide_eq_true h
section
variable {X : Cx} {B : Base} {S S1 S2 S3 : Stt} {x y z : Slot} {a b c e tg : Expr} {pos : Pos}
theorem je_sortI {q : Pos} {xs : List Int} (hm : X.mg "sorted" = none) (ha : JE X B S e S1 x) (hl : Lv X.K B S1 x (xs.map Slot.val)) (hg : Gl X "sorted" := by rfl) (hst : starEach [e] X.env = (false, eval e X.env) :: starEach [] X.env := by rfl) : JE X B S (.Call (.Name "sorted" q) [e] [] pos) S1 (.own (.lst ((sortI xs).map Slot.val))) :=
  je_callB cr_sortedI hm (by decide +kernel) (ja_cons ha ja_nil hst) (oc1 fun T tv σ v H Q hs q => by
    obtain ⟨G, as, bs, z⟩ := hs
    obtain ⟨l, vs, rfl, hr, hss⟩ := hl z
    obtain ⟨a1, a2, rfl, _, z1⟩ := id z.pop
    have ev : vs = xs.map V.int := ss_ints hss
    subst ev
    refine ⟨l, xs, rfl, hr, fun ns' r pm ho hn => q _ _ (z1.newO hn (.lst ?_))⟩
    rw [← sortI_eq pm ho]
    exact ss_of_ints _) hg (by decide) (by decide) hst
end
end J
namespace J
end J
namespace J
open PySem L2
open PySem.W (Datum)
/-! ### refusing calls by names -/
end J
namespace J
open PySem L2
open PySem.Spec PyProof.Rows
open PySem.W (Datum)
/-! ### zip(a, b, strict=True), of lists alike in length -/
end J
namespace J
open PySem L2
open PySem.W (Datum)
/-! ### a list of two things of two kinds, compared -/
structure H2 (α β : Type) where
  a : α
  b : β
deriving DecidableEq
section
variable {α β : Type} [DecidableEq α] [Datum α] [DecidableEq β] [Datum β]
instance : Datum (H2 α β) where
  toD p := .list [Datum.toD p.a, Datum.toD p.b]
  plain p := by simp only [PyData.plain, PyData.plainAll, Datum.plain, Bool.and_self]
  eqv p q := by
    simp only [PyData.eqv, PyData.eqvAll]
    rw [Datum.eqv, Datum.eqv, Bool.and_true, ← Bool.decide_and]
    refine decide_eq_decide.mpr ⟨fun e => ?_, fun e => by rw [e]; exact ⟨rfl, rfl⟩⟩
    cases p
    cases q
    cases e.1
    cases e.2
    rfl
  depth := max (Datum.depth α) (Datum.depth β) + 1
  depth_le p := by
    simp only [PyData.depth, PyData.depthAll]
    exact Nat.succ_le_succ (Nat.max_le.mpr ⟨Nat.le_trans (Datum.depth_le p.a) (Nat.le_max_left _ _), Nat.max_le.mpr ⟨Nat.le_trans (Datum.depth_le p.b) (Nat.le_max_right _ _), Nat.zero_le _⟩⟩)
variable {B : Base} {S : Stt}
end
end J
namespace J
open PySem L2
open PySem.Spec PyProof.Rows
open PySem.W (Datum)
/-! ### enumerate(reversed(list)) -/
end J
namespace J
universe u w
open PySem L2
open PySem.W (Datum DatumOrd Holds HoldAll T3 T4)
/-! ### {k: v for ..}, keys whole numbers -/
end J
namespace J
open PySem L2
open PySem.W (Datum)
/-! ### in a dict, as a value -/
end J
namespace J
open PySem PySem.Spec PyProof.Rows L2
open PySem.W (Datum)
/-! ### list(range(b)), list(range(a, b)) -/
end J
namespace J
open PySem L2
/-! ### a or b, where b changes things, ahead of two ways -/
end J
namespace J
open PySem PySem.Spec PyProof.Rows L2
open PySem.W (Datum)
/-! ### dict(a list of pairs) -/
end J
namespace J
open PySem PySem.Spec PyProof.Rows L2
open PySem.W (Datum)
/-! ### a name that may be without a value -/
end J
namespace J
open PySem PySem.Spec PyProof.Rows L2
open PySem.W (Datum)
/-! ### a call whose told list of whole numbers is nobody else's -/
def AlC (c : Cel) : Prop := ∀ (G G' H : Hp) (o : HO) (as : List Addr), CeI G H c o as → CeI G' H c o as
inductive Alc : List (Addr × Cel) → Prop where
  | nil : Alc []
  | cons {p : Addr} {c : Cel} {cs : List (Addr × Cel)} : AlC c → Alc cs → Alc ((p, c) :: cs)
theorem Alc.cs : ∀ {cs : List (Addr × Cel)}, Alc cs → ∀ {G G' H : Hp} {bs : List Addr}, CsI G H cs bs → CsI G' H cs bs
  | _, .nil, _, _, _, _, .nil => .nil
  | _, .cons h hs, _, _, _, _, .cons hp hc h2 => .cons hp (h _ _ _ _ _ hc) (hs.cs h2)
  | _, .cons h hs, _, _, _, _, .gone h2 => .gone (hs.cs h2)
end J
namespace J
open PySem PySem.Spec PyProof.Rows L2
open PySem.W (Datum DatumOrd)
/-! ### dicts by pairs of whole numbers -/
/-! ### max(xs, default=d) -/
end J
namespace J
open PySem PySem.Spec PyProof.Rows L2
open PySem.W (Datum)
/-! ### d.pop(k), k a pair -/
/-! ### a and b, where b changes things, ahead of two ways -/
end J
namespace J
open PySem PySem.Spec PyProof.Rows L2
open PySem.W (Datum)
/-! ### a def that is called with nothing being shown: the law itself -/
structure FnG (P : Program) (w : World) (K : PySem.W.Frag) (mg : Str → Option Value) (base : Heap) (CX : CXT) (k : Nat) (fa : Addr) (fd : FuncData) (ps : List Str) (sp : Sp) : Prop where
  go : ∀ (A1 : Around) (out : List Env) (s : Shared) (H : Hp) (ag : Args) (us : List Value) (vs : List V) (Q : VK) (E : XK), A1.guards = some [] → Room k A1 → Env0 P w K mg base A1 out s H → BindsTo s fd ag (ps.zip us) → Vals vs us → sp vs H Q E →
    codeAny (model P w) A1 (.call (.ref fa) ag) (CR CX out P w H s Q E) s
theorem deeper_guards {A1 : Around} {env : Env} (h : A1.guards = some []) : (A1.deeper env).guards = some [] := by
  have e : (A1.deeper env).guards = A1.guards := by
    first
      | rfl
      | (obtain ⟨hd, d, fr, gs, u⟩ := A1; simp [Around.deeper, Around.under, pushGuards, Code.guards, Code.isGuard])
  rw [e, h]
theorem fn_ofG {CX : CXT} {P : Program} {w : World} {K : PySem.W.Frag} {mg : Str → Option Value} {base : Heap} {k : Nat} {fa : Addr} {nm qual : Str} {params : Arguments} {bd : List Stmt} {scope : Scope} {dV kV doc pm cdv ct oc : Value} {an od : Option Addr}
    {osl : Array (Option Value)} {N ps : List Str} {sp : Sp} (lk : K.lookup fa = some ⟨oc, od, .func (PySem.W.fnOf nm qual params bd scope dV kV doc pm an cdv ct), osl⟩) (hcd : PySem.W.codeIn K cdv qual = true) (Sc : FnScope N ps scope)
    (hlen : ∀ vs H Q E, sp vs H Q E → vs.length = ps.length)
    (hbd : ∀ (A1 : Around) (out : List Env) (s : Shared) (H : Hp) (vs : List V) (Q : VK) (E : XK), (A1.deeper (envOfC qual scope s.heap.objs.size fa cdv)).guards = some [] → Room k (A1.deeper (envOfC qual scope s.heap.objs.size fa cdv)) → sp vs H Q E →
      ∃ t, PSs (cxOf CX P w K mg base N qual scope fa cdv A1 out s H E) bd t ∧ t { nx := fun _ H' => Q .non H', rt := Q } (start N vs) H) :
    FnG P w K mg base CX (k + 1) fa (PySem.W.fnOf nm qual params bd scope dV kV doc pm an cdv ct) ps sp := by
  refine ⟨fun A1 out s H ag us vs Q E hg hr en hb r hsp => ?_⟩
  have hl := hlen _ _ _ _ hsp
  have old : ∀ b o, base.get? b = some o → s.heap.get? b = some o := fun b o e => (en.bs b o e).1
  have kin : K.In s.heap := en.mod.kin.keeps old
  have nol : s.heap.NoLimit := en.mod.nolimit.keeps old
  have kinds : ∀ y ∈ ps.zip us, scope.names.lookup y.1 = some .local ∨ (scope.names.lookup y.1 = some .cell ∧ ((cellsFrom (s.heap.objs.size + 1) scope.names []).lookup y.1).isSome = true) := fun ⟨n, v⟩ hy => by
    cases Sc.par n (List.of_mem_zip hy).1 with
    | inl q => exact .inl q
    | inr q => exact .inr ⟨q, PySem.W.cellsFrom_some _ _ _ (.inl q)⟩
  refine codeAny_call_function hr.depth (kin _ _ lk) rfl Sc.co Sc.gen rfl (PySem.W.codeRec_of kin hcd) (hb _ _ _ _ ?_)
  refine wpAny_newFunctionEnv_cells Sc.kind kinds fun env ee s1 xx => ?_
  cases ee
  refine ⟨nol.keeps xx.toInCall.keep, codeAny_func ?_⟩
  obtain ⟨t, ht, hq⟩ := hbd A1 out s H vs Q E (deeper_guards hg) (hr.deeper _) hsp
  have I0 := inv_start (CX := CX) (E := E) (cd := cdv) (qual := qual) Sc hr.hd en hl r xx
  have done : ∀ {σ' : L2.St} {H' : Hp} {v : V} {u : Value} {s' : Shared}, Inv (cxOf CX P w K mg base N qual scope fa cdv A1 out s H E) [] σ' H' s' → RelV v u → Q v H' → CE out P w H s Q u s' :=
    fun {σ' H' v u s'} J1 rv q => ⟨v, H', J1.os, J1.bare, J1.base, J1.hok, rv, q⟩
  refine wpAny_mono (ht.run [] s1 (start N vs) H _ I0 hq) (fun fl s' hs => ?_) fun e s' hs => hs
  match fl, hs with
  | .ret u, ⟨v, σ', H', J1, rv, q⟩ => exact done J1 rv q
  | .next, ⟨σ', H', J1, q⟩ => exact done (v := V.non) (u := Value.none) J1 rfl q
  | .brk, ⟨_, _, _, q⟩ => exact False.elim q
  | .cont, ⟨_, _, _, q⟩ => exact False.elim q
theorem fn_okG {γ : Type} (f : FS γ) {P : Program} {w : World} {K : PySem.W.Frag} {mg : Str → Option Value} {base : Heap} {x qual : Str} {params : Arguments} {bd : List Stmt} {scope : Scope} {dvs : List V} {kwd : List (Str × V)} {fa : Addr} {fd : FuncData} {N ps : List Str} {lv : Nat} (F : FunD K x qual params bd scope dvs kwd fa fd) (sc : FnScope N ps scope) (hn : ∀ g, (f.args g).length = ps.length) (hp : ∀ g, ∀ s ∈ f.args g, s.plain = true)
    (body : ∀ (cdv : Value) (A : Around) (outer : List Env) (s : Shared) (H : Hp) (E : XK), (fctx P w K mg base N qual scope fa cdv A outer s H E).A.guards = some [] → Room lv (fctx P w K mg base N qual scope fa cdv A outer s H E).A → ∀ (B : Base) (g : γ), f.pre g → f.preG g B.G →
      JS (fctx P w K mg base N qual scope fa cdv A outer s H E) B ⟨f.args g ++ List.replicate (N.length - (f.args g).length) .any, f.cells g⟩ bd (fend B f g)) : FnG P w K mg base CX0 (lv + 1) fa fd ps f.sp := by
  obtain ⟨oc, od, dV, kV, doc, pm, an, cdv, ct, osl, rfl, lk, hcd, _, _⟩ := F.ex
  refine fn_ofG lk hcd sc (fun vs H Q E h => ?_) (fun A outer s H vs Q E hgd hr h => ?_)
  · obtain ⟨g, B, _, _, hs, _⟩ := h
    obtain ⟨G, as, bs, z⟩ := hs
    rw [← hn g, z.tmp.len]
  · obtain ⟨g, B, hpre, hpg, hs, q⟩ := h
    refine ⟨tbOf (fctx P w K mg base N qual scope fa cdv A outer s H E) bd, PSs.nox pb0, ?_⟩
    refine tb_mono (body cdv A outer s H E hgd hr B g hpre hpg [] [] _ H (hs.enter (hp g))) (fun σ H h => q _ _ h) (fun v H h => q _ _ h) (fun _ _ h => h.elim) (fun _ _ h => h.elim)
/-! the head -/
theorem law_callG {P : Program} {w : World} {K : PySem.W.Frag} {mg mb : Str → Option Value} {CX : CXT} {k : Nat} {fa a : Addr} {fd : FuncData} {x : Str} {sp : Sp} {s1 : Shared} {vs : List Value} {ns : List Int}
    (kin : K.In s1.heap) (hns : s1.heap.Ns mainGlobals mg) (hbn : s1.heap.Ns builtinsNs mb) (hbb : ∀ x : Str, x ≠ "__name__" → mb x = bootBuiltins x) (nol : s1.heap.NoLimit) (hgn : s1.gens = #[])
    (ha : s1.heap.get? a = some { cls := .type "list", data := .seq vs.toArray }) (hi : IntsAre vs ns) (hl : ns.length ≤ sizeLine) (hr : Room k callerA)
    (F : ∀ base : Heap, K.In base → base.Ns mainGlobals mg → FnG P w K mg base CX k fa fd [x] sp) (hbind : ∀ (s : Shared) (u : Value), BindsTo s fd ⟨[u], []⟩ [(x, u)])
    (hsp : ∀ H : Hp, Only H → SqL K H a (ns.map V.int) → sp [.ref a] H (fun v _ => v = .bl true) fun _ _ _ => False)
    (hCX : ∀ H e s', CX [] H s1 (fun _ _ _ => False) e s' → False) :
    codeAny (model P w) callerA (.call (.ref fa) ⟨[.ref a], []⟩) (fun r s' => r = .ok (.ret (.bool true)) ∧ OldK s1.heap s'.heap ∧ s'.os = s1.os ∧ AllBare s'.gens) s1 := by
  have rv := vals_ints hi
  have lenV := hi.length
  have none0 : ∀ b : Addr, b ∉ ([] : List Addr) := fun b h => nomatch h
  have core : ∀ H : Hp, Only H → SqL K H a (ns.map V.int) → HOk P w H s1.heap → (∀ b, H b ≠ none → b = a) → (H a ≠ none → K.lookup a = none) →
      codeAny (model P w) callerA (.call (.ref fa) ⟨[.ref a], []⟩) (fun r s' => r = .ok (.ret (.bool true)) ∧ OldK s1.heap s'.heap ∧ s'.os = s1.os ∧ AllBare s'.gens) s1 := by
    intro H hO hS hok hA hK
    have noA : ∀ {b : Addr} {o : Obj} {es : Array DictEntry} {ep : Nat}, s1.heap.get? b = some o → o.data = .dict es ep → H b = none := fun {b o es ep} e d => by
      cases q : H b with
      | none => rfl
      | some u =>
        obtain rfl := hA b (by rw [q]; nofun)
        rw [ha] at e
        cases e
        exact absurd (show Data.seq vs.toArray _ = Data.dict es ep from d) (fun z => nomatch z)
    have nsK : ∀ {b : Addr} {m : Str → Option Value}, s1.heap.Ns b m → (hidT s1.heap H).Ns b m := fun {b m} ⟨o, es, ep, e, d, r⟩ => ⟨o, es, ep, hidT_get e (noA e d), d, r⟩
    have hKb : K.In (hidT s1.heap H) := fun b o e => hidT_get (kin b o e) (by
      cases q : H b with
      | none => rfl
      | some u =>
        obtain rfl := hA b (by rw [q]; nofun)
        rw [hK (by rw [q]; nofun)] at e
        cases e)
    obtain ⟨mc, l1, l2⟩ := nol
    have hM : Mod K mg (hidT s1.heap H) := ⟨hKb, nsK hns, ⟨mb, nsK hbn, hbb⟩, mc, nsK l1, l2⟩
    have en : Env0 P w K mg (hidT s1.heap H) callerA [] s1 H := ⟨rfl, hM, fun b o e => of_hidT e, Nat.le_of_eq (hidT_size _ _), trivial, fun b hb => absurd hb (none0 b), hok, .of_eq hgn⟩
    refine codeAny_mono ((F _ hKb (nsK hns)).go callerA [] s1 H ⟨[.ref a], []⟩ [.ref a] [.ref a] _ _ rfl hr en (hbind s1 (.ref a)) (.cons rfl .nil) (hsp H hO hS)) fun r s' h => ?_
    match r, h with
    | .error e, h => exact (hCX H e s' h).elim
    | .ok .next, h => exact False.elim h
    | .ok .brk, h => exact False.elim h
    | .ok .cont, h => exact False.elim h
    | .ok (.ret u), ⟨v, H', os, bare, un, hok', r', q⟩ =>
      obtain rfl : v = .bl true := q
      obtain rfl : u = Value.bool true := r'
      refine ⟨rfl, OldK.of_keep fun b o e => ?_, os, bare⟩
      cases q : H b with
      | none => exact un.keep b o e q (none0 b) (none0 b)
      | some u =>
        rcases hO b with z | ⟨ob, xs, z⟩
        · rw [q] at z
          cases z
        · obtain ⟨e1, _⟩ := hok b _ z
          obtain ⟨e2, _⟩ := hok' b _ (un.frzs b ob _ z)
          rw [e] at e1
          cases e1
          exact e2
  cases hk : K.lookup a with
  | some o =>
    have e := kin a o hk
    rw [ha] at e
    cases e
    exact core (fun _ => none) (fun _ => .inl rfl) (.inr ⟨_, vs.toArray, _, hk, rfl, rfl, rfl, by rw [List.size_toArray, lenV]; exact hl, by simpa using rv⟩) (fun b u z => nomatch (show (none : Option HO) = some u from z)) (fun b z => absurd rfl z) fun z => absurd rfl z
  | none =>
    refine core (fun b => if b = a then some (.frz { cls := .type "list", data := .seq vs.toArray } (.lst (ns.map V.int))) else none) (fun b => ?_) (.inl (.inr ⟨{ cls := .type "list", data := .seq vs.toArray }, if_pos rfl⟩)) (fun b u z => ?_) (fun b z => ?_) fun _ => hk
    · by_cases c : b = a
      · exact .inr ⟨_, _, if_pos c⟩
      · exact .inl (if_neg c)
    · by_cases c : b = a
      · subst c
        cases (if_pos rfl).symm.trans z
        exact ⟨ha, by rw [List.length_map]; exact hl, vs, _, rv, ha⟩
      · cases (if_neg c).symm.trans z
    · by_cases c : b = a
      · exact c
      · exact absurd (if_neg c) z
theorem walk_ofG {l : PySem.W.OpenLaw} {n k : Nat} {q : Program} {loose : List Str} {XP : (Str → Option Value) → Heap → Prop} {YP : World → Heap → Prop} {d : DefRec} {CX : CXT} {x : Str}
    (hn : l.most = some n) (hn2 : n ≤ sizeLine) (hdf : d.params.defaults = []) (hr : Room k callerA)
    (F : ∀ (w : World) (mg : Str → Option Value) (fa : Addr) (h : Heap), YP w h → h.Ns mainGlobals mg → mg d.name = some (.ref fa) →
      ∃ (K : PySem.W.Frag) (fd : FuncData) (sp : Sp), K.In h ∧ (∀ (s : Shared) (u : Value), BindsTo s fd ⟨[u], []⟩ [(x, u)]) ∧
        (∀ (H : Hp) (a : Addr) (ns : List Int), ns.length ≤ n → Only H → SqL K H a (ns.map V.int) → sp [.ref a] H (fun v _ => v = .bl true) fun _ _ _ => False) ∧
        ∀ base : Heap, K.In base → base.Ns mainGlobals mg → FnG l.prog w K mg base CX k fa fd [x] sp)
    (hCX : ∀ (H : Hp) (s : Shared) (e : Value) (s' : Shared), CX [] H s (fun _ _ _ => False) e s' → False) :
    PySem.W.WalkO q loose XP YP l.row.toRowW d [] (fun f vs => PySem.call f vs) := by
  refine Att.attach_call hn hdf fun w s₀ s1 mg mb fa o pm cd doc a vs ns G Y ho hd hcd hmg hobj hints hlen hg => ?_
  obtain ⟨K, fd, sp, kin, hb, hsp, hF⟩ := F w mg fa _ Y G.T.g hmg
  exact law_callG kin G.T.g G.T.b G.T.builtins G.T.nolimit hg hobj hints (Nat.le_trans hlen hn2) hr hF hb (fun H hO hS => hsp H a ns hlen hO hS) fun H e s' => hCX H s1 e s'
/-! ### data of no one kind; its text -/
def rawS (d : PyData) : Slot := .say (fun G u => Dq G u d)
/-- what a slot shows -/
def Rw (x : Slot) (d : PyData) : Prop := ∀ (G H : Hp) (u : V) (as : List Addr), SlI G H x u as → Dq G u d
theorem rw_val {α : Type} [DecidableEq α] [Datum α] {t : α} : Rw (.val t) (Datum.toD t) := fun _ _ _ _ h => sl_dq h
theorem rw_raw {d : PyData} : Rw (rawS d) d := fun _ _ _ _ h => by
  cases h with
  | say _ h => exact h
/-- text of data: a list or a tuple, short enough -/
def isDsp : PyData → Bool
  | .list _ | .tuple _ => true
  | _ => false
def reprG (d : PyData) : Option Str := if (isDsp d && d.showable && !d.hasDict && decide (d.depth ≤ 30) && decide (d.shown.length ≤ sizeLine)) = true then some d.shown else none
def rRepr (K : PySem.W.Frag) : List V → Hp → VK → Prop := fun xs H Q => ∃ v d r, xs = [v] ∧ Dp K H v d ∧ reprG d = some r ∧ Q (.str r) H
section
variable {X : Cx}
theorem cr_repr (hg : X.A.guards = some []) (hu : X.A.units + 64 < cLine) : CallR X (.builtin "repr") (rRepr X.K) := by
  intro pins s σ H xs us Q I r h
  obtain ⟨v, d, t, rfl, hd, ht, q⟩ := h
  obtain ⟨u, rfl, r1⟩ := vals1 r
  unfold reprG at ht
  split at ht
  · rename_i hc
    simp only [Bool.and_eq_true, Bool.not_eq_true', decide_eq_true_eq] at hc
    obtain ⟨⟨⟨⟨c1, c2⟩, c3⟩, c4⟩, c5⟩ := hc
    cases ht
    obtain ⟨as, hr⟩ := Dp.reads I d v u hd r1
    have ref : ∃ a, u = .ref a := by
      cases hr <;> first | exact ⟨_, rfl⟩ | cases c1
    obtain ⟨a, rfl⟩ := ref
    exact repr_of_reads' hr c2 (PyData.noDict_hsm c3) hg (by omega) (fun _ _ e => e) (fun h' w tk hk => ⟨.str d.shown, H, I.kept hk, ⟨w, rfl⟩, q⟩) c5
  · cases ht
end
section
variable {X : Cx} {B : Base} {S S1 S2 : Stt} {x y : Slot} {a b e : Expr} {es : List Expr} {pos : Pos}
theorem je_repr {p : Pos} {lv : Nat} {d : PyData} {t : Str} (hg : X.A.guards = some []) (hr : Room lv X.A) (hm : X.mg "repr" = none) (ha : JE X B S e S1 x) (hx : Rw x d) (ht : reprG d = some t) (hgl : Gl X "repr" := by rfl) (hst : starEach [e] X.env = (false, eval e X.env) :: starEach [] X.env := by rfl) :
    JE X B S (.Call (.Name "repr" p) [e] [] pos) S1 (.val t) :=
  je_callB (cr_repr hg hr.units) hm (by rfl) (ja_cons ha ja_nil hst) (oc1 fun T tv σ v H Q h q => by
    obtain ⟨G, as, bs, z⟩ := h
    obtain ⟨a1, a2, rfl, h1, z1⟩ := z.pop
    have hd := hx _ _ _ _ h1
    refine ⟨v, d, t, rfl, dq_dp (dq_mono z.sub hd), ht, q _ _ ?_⟩
    exact ⟨G, [] ++ a2, bs, .cons (.val (.str t)) z1.tmp, z1.cel, z1.slo, z1.nod, z1.fre, z1.gro, z1.new, z1.sub, z1.frm⟩) hgl (he := hst)
end
/-! lists of data of any kind, for good -/
inductive RwA : List Slot → List PyData → Prop where
  | nil : RwA [] []
  | non {ss : List Slot} {ds : List PyData} (h : RwA ss ds) : RwA (.v .non :: ss) (.none :: ds)
  | val {α : Type} [DecidableEq α] [Datum α] {t : α} {ss : List Slot} {ds : List PyData} (h : RwA ss ds) : RwA (.val t :: ss) (Datum.toD t :: ds)
  | raw {d : PyData} {ss : List Slot} {ds : List PyData} (h : RwA ss ds) : RwA (rawS d :: ss) (d :: ds)
theorem RwA.dq {G G' H : Hp} : ∀ {ss : List Slot} {ds : List PyData} {vs : List V} {as : List Addr}, RwA ss ds → SsI G H ss vs as → Ex G G' → DqAll G' vs ds
  | _, _, _, _, .nil, .nil, _ => .nil
  | _, _, _, _, @RwA.val α i1 i2 t ss ds h, .cons s1 s2, e => .cons (dq_mono e (@sl_dq α i1 i2 _ _ _ _ t s1)) (h.dq s2 e)
  | _, _, _, _, .raw h, .cons s1 s2, e => .cons (dq_mono e (rw_raw _ _ _ _ s1)) (h.dq s2 e)
  | _, _, _, _, .non h, .cons s1 s2, e => by
    cases s1
    exact .cons .non (h.dq s2 e)
end J
namespace J
open PySem PySem.Spec PyProof.Rows L2
open PySem.W (Datum)
/-! ### texts put together; data of no one kind made longer; refusals within lists -/
theorem RwA.app : ∀ {s1 s2 : List Slot} {d1 d2 : List PyData}, RwA s1 d1 → RwA s2 d2 → RwA (s1 ++ s2) (d1 ++ d2)
  | _, _, _, _, .nil, h => h
  | _, _, _, _, .non h1, h => .non (h1.app h)
  | _, _, _, _, @RwA.val α i1 i2 t ss ds h1, h => @RwA.val α i1 i2 t _ _ (h1.app h)
  | _, _, _, _, .raw h1, h => .raw (h1.app h)
end J
namespace J
open PySem PySem.Spec PyProof.Rows L2
open PySem.W (Datum)
/-! ### dicts by pairs, gone through; a named list's text -/
end J
namespace J
universe u w
open PySem PySem.Spec PyProof.Rows L2
open PySem.W (Datum)
section
variable {X : Cx} {B : Base} {S S1 S2 S3 : Stt} {x y z : Slot} {a b e o tg : Expr} {es : List Expr} {pos apos : Pos} {D : FE} {rest : List Stmt}
/-! ### loops over things of any slot -/
theorem js_forLEV {π ι α ρ : Type} {ei : α → Slot} {xs : List α} {f : ι → α → Option (Lp ι ρ)} {Sf : π → ι → Stt} {Sb : π → ι → α → Stt} {Rr : ρ → V → Hp → Prop} {s0 : ι} {sE : Sum ι ρ} {tg iter : Expr} {body : List Stmt} {zs : List Slot} {ok : Stt → Prop} (hf : forL f xs s0 = some sE)
    (hi : JI X B S tg iter S1 zs (xs.map ei) ok) (h0 : ∀ T tv σ H, Sta B S1 T σ tv H → ∃ q, Sta B (Sf q s0) T σ tv H) (hok : ∀ q s, ok (Sf q s))
    {ws : List Nat} (hg : ∀ q s x, JG X B (Sf q s) tg (ei x) (Sb q s x) ws)
    (hb : ∀ q s x (o : Lp ι ρ), x ∈ xs → f s x = some o → JS X B (Sb q s x) body { nx := fun T tv σ H => ∃ s', o = .nx s' ∧ ∃ q, Sta B (Sf q s') T σ tv H, rt := fun v H => ∃ r, o = .rt r ∧ Rr r v H, ct := fun T tv σ H => ∃ s', o = .nx s' ∧ ∃ q, Sta B (Sf q s') T σ tv H, bk := fun T tv σ H => ∃ s', o = .bk s' ∧ ∃ q, Sta B (Sf q s') T σ tv H })
    (hr : ∀ r, sE = .inr r → ∀ v H, Rr r v H → D.rt v H) (k : ∀ s, sE = .inl s → ∀ q, JS X B (Sf q s) rest D) (hc : X.calm = true := by rfl) (hp : PassesOwn (model X.prog X.w) X.A X.env X.xe := by exact PassesOwn.never) (hs : ∀ x, foldedSetIterable iter X.env x = pure x := by intro _; rfl) : JS X B S (.For tg iter body [] pos :: rest) D := by
  refine js_step (ps_for hp hc pi0 pg0 pb0 hs) fun T tv σ H h => hi _ _ _ _ _ h fun J zv H1 hl h1 wk => ?_
  refine ⟨fun i m σ H => m = xs.length - i ∧ i ≤ xs.length ∧ ∃ s, forL f (xs.drop i) s = some sE ∧ ∃ q, Sta B (Sf q s) (zs ++ T) σ (zv ++ tv) H, ⟨xs.length, by simp, Nat.zero_le _, s0, hf, h0 _ _ _ _ h1⟩, ?_⟩
  rintro i m σ H ⟨rfl, hle, s, hs', q, hS⟩
  by_cases hlt : i < xs.length
  · rw [List.drop_eq_getElem_cons hlt] at hs'
    refine bnd hs' fun o e1 e2 => .inr ?_
    have hx : (xs.map ei)[i]? = some (ei xs[i]) := by rw [List.getElem?_map, List.getElem?_eq_getElem hlt]; rfl
    obtain ⟨w1, w2⟩ := wk.go _ _ _ _ _ i _ (hok q s) hx hS
    refine ⟨w1, fun σ' H' => ∃ s', o = .nx s' ∧ ∃ q, Sta B (Sf q s') (zs ++ T) σ' (zv ++ tv) H', ?_, fun v H' y => ?_⟩
    · rintro σ' H' ⟨s2, rfl, g⟩
      exact ⟨xs.length - (i + 1), by omega, rfl, hlt, s2, e2, g⟩
    · exact hg q s xs[i] _ _ _ _ _ _ (w2 v H' y) fun σ3 H3 _ g3 => ⟨fun pins st I => thn ((hb q s xs[i] o (List.getElem_mem hlt) e1 _ _ _ _ g3).run pins st I) fun fl s2 q => by
        cases fl with
        | next => exact q
        | cont => exact q
        | brk =>
          obtain ⟨σ', H', I', s', rfl, w, g⟩ := q
          cases e2
          exact ⟨σ', H', I', k s' rfl w _ _ _ _ (Sta.drops hl g)⟩
        | ret u =>
          obtain ⟨v', σ', H', I', rv, r, rfl, g⟩ := q
          cases e2
          exact ⟨v', σ', H', I', rv, hr r rfl _ _ g⟩⟩
  · have e : i = xs.length := by omega
    subst e
    rw [List.drop_length] at hs'
    cases hs'
    have st := wk.stop _ _ _ _ _ (hok _ _) hS
    rw [List.length_map] at st
    exact .inl ⟨st, k s rfl q _ _ _ _ (Sta.drops hl hS)⟩
end
/-! ### lists of things of our own -/
def ownL (cs : List Cel) : Cel := .lst (cs.map Slot.own)
section
variable {X : Cx} {B : Base} {S S1 S2 S3 : Stt} {x y z : Slot} {a b e o tg : Expr} {es : List Expr} {pos apos : Pos} {D : FE} {rest : List Stmt} {T : List Slot} {σ : L2.St} {tv : List V} {H : Hp} {p : Addr} {cs : List Cel}
/-- a cell that is held as a temporary thing is laid back -/
theorem Sta.back (k : Nat) {c : Cel} {q0 : Addr} {c0 : Cel} (hk : S.cs[k]? = some (q0, c0)) (hg : c0 = .gone) (h : Sta B S (.own c :: T) σ (.ref p :: tv) H) : Sta B ⟨S.sl, S.cs.set k (p, c)⟩ T σ tv H := by
  subst hg
  obtain ⟨G, as0, bs, z⟩ := h
  obtain ⟨a1, a2, rfl, g, z'⟩ := z.pop
  cases g with
  | @own _ _ o m hp hc =>
    obtain ⟨b, cb, pb⟩ := CsI.puts (Pt.cons k hk .nil) z'.cel (CsI.cons hp hc .nil)
    have pm : (a2 ++ b).Perm ((p :: m) ++ a2 ++ bs) := by
      have e1 : (a2 ++ b).Perm (a2 ++ ((p :: (m ++ [])) ++ bs)) := List.Perm.append_left _ pb
      rw [List.append_nil] at e1
      refine e1.trans ?_
      rw [← List.append_assoc]
      exact List.Perm.append_right _ List.perm_append_comm
    exact ⟨G, a2, b, z'.tmp, cb, z.slo, pm.nodup_iff.mpr z.nod, fun a ha => z.fre a (pm.mem_iff.mp ha), z.gro, z.new, z.sub, z.frm⟩
theorem ownL_ng (cs : List Cel) : ownL cs ≠ .gone := by unfold ownL; nofun
theorem Sta.lift (k : Nat) {c : Cel} (hk : S.cs[k]? = some (p, c)) (hg : c ≠ .gone) (h : Sta B S T σ tv H) : Sta B ⟨S.sl, S.cs.set k (p, .gone)⟩ (.own c :: T) σ (.ref p :: tv) H := (h.push (x := .v (.ref p)) (v := .ref p) fun _ _ => .v).own k hk hg
theorem Sta.lower (k : Nat) {c0 c : Cel} (hk : S.cs[k]? = some (p, c0)) (h : Sta B ⟨S.sl, S.cs.set k (p, .gone)⟩ (.own c :: T) σ (.ref p :: tv) H) : Sta B ⟨S.sl, S.cs.set k (p, c)⟩ T σ tv H := by
  obtain ⟨hlt, _⟩ := List.getElem?_eq_some_iff.mp hk
  have := h.back k (S := ⟨S.sl, S.cs.set k (p, .gone)⟩) (q0 := p) (c0 := .gone) (by show (S.cs.set k (p, Cel.gone))[k]? = _; rw [List.getElem?_set, if_pos rfl, if_pos hlt]) rfl
  rw [show ((⟨S.sl, S.cs.set k (p, .gone)⟩ : Stt).cs.set k (p, c)) = S.cs.set k (p, c) from List.set_set ..] at this
  exact this
/-- q.append(e), e a new thing of our own -/
theorem je_appendO (k : Nat) {c : Cel} {cs0 : List Cel} (ho : JE X B S o S1 (.v (.ref p))) (hk0 : S1.cs[k]? = some (p, ownL cs0)) (he : JE X B S1 e S2 (.own c)) (hk : S2.cs[k]? = some (p, ownL cs)) (hl : cs.length < 16777216)
    (hbase : attributeBase o "append" X.env (eval o X.env) = eval o X.env := by rfl) (hst : starEach [e] X.env = (false, eval e X.env) :: starEach [] X.env := by rfl)
    (hfew : ((backTo pos (starEach [e] X.env)).all (fun x => !x.1) && (backToKw pos (keywordEach [] X.env)).all (fun x => x.1.isSome) && decide (([e] : List Expr).length + ([] : List Keyword).length + (if ([] : List Keyword).isEmpty then 0 else 1) < 30)) = true := by rfl)
    (hline : (apos.endLine == pos.line) = true := by rfl) : JE X B S (.Call (.Attribute o "append" apos) [e] [] pos) ⟨S2.sl, S2.cs.set k (p, ownL (cs ++ [c]))⟩ (.v .non) :=
  je_bm k PySem.F.slot_list_append PySem.F.type_list_append mt_append ho hk0 (ja_cons he ja_nil hst) (fun T tv σ vs H Q hl' h q => by
    obtain ⟨v, rfl⟩ : ∃ v, vs = [v] := match vs, hl' with | [v], _ => ⟨v, rfl⟩
    have h : Sta B S2 (.own c :: T) σ (v :: tv) H := h
    have h2 := (h.lift k hk (ownL_ng cs)).perm2
    obtain ⟨va, hD, hvl, h3⟩ := Sta.appT (acc := cs.map Slot.own) h2
    rw [List.length_map] at hvl
    refine ⟨p, va, v, rfl, rfl, hD, by rw [hvl]; exact hl, ?_⟩
    have h4 : Sta B ⟨S2.sl, S2.cs.set k (p, .gone)⟩ (.own (ownL (cs ++ [c])) :: T) σ (.ref p :: tv) (upd H p (.lst (va ++ [v]))) := by
      unfold ownL
      rw [List.map_append]
      exact h3
    exact q _ _ ((h4.lower k hk).push fun _ _ => .v)) hbase hfew hline hst
theorem ji_listV {its : List Slot} {ok : Stt → Prop} (ha : JE X B S e S1 x) (hl : Lv X.K B S1 x its) (hok : ∀ S, ok S → Lv X.K B S x its) : JI X B S tg e S1 [x] its ok := fun T tv σ H R hs q =>
  pi1 (pi_list pe0) (ha _ _ _ _ _ hs fun v H1 h1 => by
    obtain ⟨G, as, bs, z⟩ := id h1
    obtain ⟨p, vs, rfl, hr, hss⟩ := hl z
    refine ⟨p, rfl, ⟨vs, hr⟩, q (Itl X.K p) [.ref p] H1 rfl h1 ⟨fun S T σ tv H i s hS hi h => ?_, fun S T σ tv H hS h => ?_⟩⟩
    · obtain ⟨G, as, bs, z⟩ := id h
      obtain ⟨p', vs', e, hr', hss'⟩ := hok S hS z
      cases e
      obtain ⟨u, hu, su⟩ := hss'.get i hi
      refine ⟨⟨vs', u, hr', hu⟩, fun v H' hy => ?_⟩
      obtain ⟨rfl, hy⟩ := hy
      have e := hy vs' (hr')
      rw [hu] at e
      cases e
      exact z.push su
    · obtain ⟨G, as, bs, z⟩ := id h
      obtain ⟨p', vs', e, hr', hss'⟩ := hok S hS z
      cases e
      exact ⟨vs', hr', Nat.le_of_eq hss'.len.symm⟩)
end
end J
namespace J
open PySem PySem.Spec PyProof.Rows L2
open PySem.W (Datum)
/-! ### a queue of pairs that are lists -/
end J
namespace J
universe u w
open PySem PySem.Spec PyProof.Rows L2
open PySem.W (Datum)
/-! ### parts taken in again where their things stand; states changed behind and ahead of readings -/
section
variable {X : Cx} {B : Base} {S S1 S2 S3 : Stt} {x y z : Slot} {a b e o tg : Expr} {es : List Expr} {pos apos : Pos} {D : FE} {rest : List Stmt} {T : List Slot} {σ : L2.St} {tv : List V} {H : Hp} {p q : Addr} {c d : Cel} {v : V}
theorem get_set_ne {α : Type _} {l : List α} {i j : Nat} {x y : α} (h : i ≠ j) (e : l[j]? = some y) : (l.set i x)[j]? = some y := by rw [List.getElem?_set_ne h]; exact e
theorem Sta.foldAt (k k2 j : Nat) (hk : S.cs[k]? = some (p, c)) (hj : c.nth j = some (.v (.ref q))) (hk2 : S.cs[k2]? = some (q, d)) (hne : k ≠ k2) (hgc : c ≠ .gone) (hg : d ≠ .gone) (h : Sta B S T σ tv H) : Sta B ⟨S.sl, (S.cs.set k (p, c.sub j (.own d))).set k2 (q, .gone)⟩ T σ tv H := by
  have h1 := h.lift k hk hgc
  have h2 := h1.fold k2 j hj (S := ⟨S.sl, S.cs.set k (p, .gone)⟩) (get_set_ne hne hk2) hg
  obtain ⟨hlt, _⟩ := List.getElem?_eq_some_iff.mp hk
  have h3 := h2.back k (S := ⟨S.sl, (S.cs.set k (p, .gone)).set k2 (q, .gone)⟩) (q0 := p) (c0 := .gone) (get_set_ne (Ne.symm hne) (by rw [List.getElem?_set, if_pos rfl, if_pos hlt])) rfl
  have e : ((S.cs.set k (p, Cel.gone)).set k2 (q, Cel.gone)).set k (p, c.sub j (.own d)) = (S.cs.set k (p, c.sub j (.own d))).set k2 (q, .gone) := by
    rw [List.set_comm _ _ (Ne.symm hne), List.set_set]
  have h4 : Sta B ⟨S.sl, ((S.cs.set k (p, Cel.gone)).set k2 (q, Cel.gone)).set k (p, c.sub j (.own d))⟩ T σ tv H := h3
  rw [e] at h4
  exact h4
theorem js_fold (k k2 j n : Nat) (hk : S.cs[k]? = some (p, c)) (hj : c.nth j = some (.v (.ref q))) (hk2 : S.cs[k2]? = some (q, d)) (hne : k ≠ k2) (hg : d ≠ .gone) (kx : JS X B ⟨S.sl, ((S.cs.set k (p, c.sub j (.own d))).set k2 (q, .gone)).take n⟩ rest D) (hgc : c ≠ .gone := by nofun) : JS X B S rest D := fun T tv σ H hs =>
  kx _ _ _ _ ((hs.foldAt k k2 j hk hj hk2 hne hgc hg).take n)
theorem Le.trans {S S1 S2 : Stt} (h1 : Le B S S1) (h2 : Le B S1 S2) : Le B S S2 := fun _ _ _ _ h => h2 _ _ _ _ (h1 _ _ _ _ h)
/-! ### a thing of our own, or a plain one, stored in a thing -/
variable {ks : List Key} {ss : List Slot} {key : Str} {kk : Nat}
variable {fs : List (Str × Slot)} {f m : Str} {C : Addr}
/-! ### lists: plain things among owned ones -/
theorem SsI.getP {G H : Hp} : ∀ {ss : List Slot} {vs : List V} {as : List Addr} (i : Nat) {s : Slot}, SsI G H ss vs as → ss[i]? = some s → s.plain = true → ∃ u, vs[i]? = some u ∧ SlI G H s u []
  | [], _, _, _, _, _, e, _ => by simp at e
  | s0 :: ss, _, _, 0, s, h, e, hp => by
    have e1 : s0 = s := Option.some.inj e
    subst e1
    cases h with
    | cons h1 h2 =>
      have := h1.nil hp
      subst this
      exact ⟨_, rfl, h1⟩
  | s0 :: ss, _, _, i + 1, s, h, e, hp => by
    cases h with
    | cons h1 h2 => exact SsI.getP (ss := ss) i h2 e hp
theorem je_ixC (k : Nat) {s : Slot} {i : Int} (ha : JE X B S a S1 (.v (.ref p))) (hb : JE X B S1 b S2 (.val i)) (hk : S2.cs[k]? = some (p, .lst ss)) (hi : gx ss i = some s) (hp : s.plain = true := by rfl) (hs : PlainIx b := by exact fun _ _ => rfl) : JE X B S (.Subscript a b pos) S2 s := fun T tv σ H Q h q =>
  pe1 (pe_ix ix_list pe0 pe0 hs) (ha _ _ _ _ _ h fun v H1 h1 => hb _ _ _ _ _ h1 fun u H2 h2 => by
    have e := h2.int
    subst e
    have h3 := h2.drop
    have e := h3.exact
    subst e
    obtain ⟨G, as, bs, z⟩ := h3.drop
    obtain ⟨oo, mm, hpp, hc, _⟩ := z.cellW hk (by nofun)
    cases hc with
    | @lst _ vs _ hss =>
      rw [gx_ixp] at hi
      cases hj : ixp ss.length i with
      | none => rw [hj] at hi; cases hi
      | some j =>
        rw [hj] at hi
        obtain ⟨w, hw, sw⟩ := hss.getP j hi hp
        refine ⟨p, vs, i, w, rfl, rfl, .inl (.of hpp), ?_, q w H2 (z.push sw)⟩
        rw [atI_gx, gx_ixp, ← hss.len, hj]
        exact hw)
end
/-! ### lists of things of our own, of one kind -/
section
variable {α : Type} {f : α → Cel} {xs ys : List α} {X : Cx} {B : Base} {S S1 S2 S3 : Stt} {x y z : Slot} {a b e o tg : Expr} {es : List Expr} {pos apos : Pos} {D : FE} {rest : List Stmt} {T : List Slot} {σ : L2.St} {tv : List V} {H : Hp} {p q : Addr} {v : V} {n : Nat} {i : Int}
def mlC (f : α → Cel) (xs : List α) : Cel := .lst (xs.map fun x => .own (f x))
def mlH (f : α → Cel) (xs : List α) (n : Nat) (q : Addr) : Cel := .lst ((xs.map fun x => Slot.own (f x)).set n (.v (.ref q)))
theorem ml_nth {x : α} (h : xs[n]? = some x) : (mlC f xs).nth n = some (.own (f x)) := by
  show (xs.map fun x => Slot.own (f x))[n]? = _
  rw [List.getElem?_map, h]
  rfl
theorem gx_atI {x : α} (h : gx xs i = some x) : ∃ n, ixp xs.length i = some n ∧ xs[n]? = some x := by
  rw [gx_ixp] at h
  cases e : ixp xs.length i with
  | none => rw [e] at h; cases h
  | some n => rw [e] at h; exact ⟨n, rfl, h⟩
/-- where i stands -/
def ixn (m : Nat) (i : Int) : Nat := (ixp m i).getD 0
theorem gx_ixn {x : α} (h : gx xs i = some x) : xs[ixn xs.length i]? = some x := by
  obtain ⟨n, e, h2⟩ := gx_atI h
  unfold ixn
  rw [e]
  exact h2
/-- the i-th thing gets a name -/
theorem js_openM (k : Nat) (i : Int) {x : α} (hx : gx xs i = some x) (hk : S.cs[k]? = some (p, mlC f xs)) (h : ∀ q, JS X B ⟨S.sl, S.cs.set k (p, mlH f xs (ixn xs.length i) q) ++ [(q, f x)]⟩ rest D) : JS X B S rest D :=
  js_open k (ixn xs.length i) hk (ml_nth (gx_ixn hx)) h
theorem ml_sub {x : α} : (mlH f xs n q).sub n (.own (f x)) = mlC f (xs.set n x) := by
  show Cel.lst (((xs.map fun x => Slot.own (f x)).set n (.v (.ref q))).set n (.own (f x))) = _
  rw [List.set_set]
  show _ = Cel.lst _
  rw [List.map_set]
theorem mlH_nth (h : n < xs.length) : (mlH f xs n q).nth n = some (.v (.ref q)) := by
  show ((xs.map fun x => Slot.own (f x)).set n (.v (.ref q)))[n]? = _
  rw [List.getElem?_set, if_pos rfl, if_pos (by rw [List.length_map]; exact h)]
theorem stx_ixn {x : α} (h : stx xs i x = some ys) : ixn xs.length i < xs.length ∧ ys = xs.set (ixn xs.length i) x := by
  unfold stx at h
  unfold ixn
  cases e : ixp xs.length i with
  | none => rw [e] at h; cases h
  | some n =>
    rw [e] at h
    cases h
    refine ⟨?_, rfl⟩
    unfold ixp at e
    split at e
    · split at e
      · cases e; show Int.toNat i < _; omega
      · cases e
    · split at e
      · cases e; show Int.toNat _ < _; omega
      · cases e
theorem js_closeM (k k2 m : Nat) (i : Int) {x : α} (hy : stx xs i x = some ys) (hk : S.cs[k]? = some (p, mlH f xs (ixn xs.length i) q)) (hk2 : S.cs[k2]? = some (q, f x)) (hne : k ≠ k2) (ng : ∀ x, f x ≠ .gone) (h : JS X B ⟨S.sl, ((S.cs.set k (p, mlC f ys)).set k2 (q, .gone)).take m⟩ rest D) : JS X B S rest D := by
  obtain ⟨hl, rfl⟩ := stx_ixn hy
  rw [← ml_sub (q := q)] at h
  exact js_fold k k2 _ m hk (mlH_nth hl) hk2 hne (ng x) h
/-- xs[i], the i-th thing having a name -/
theorem je_ixM (k : Nat) {x : α} (hx : gx xs i = some x) (ha : JE X B S a S1 (.v (.ref p))) (hb : JE X B S1 b S2 (.val i)) (hk : S2.cs[k]? = some (p, mlH f xs (ixn xs.length i) q)) (hs : PlainIx b := by exact fun _ _ => rfl) : JE X B S (.Subscript a b pos) S2 (.v (.ref q)) := by
  refine je_ixC k ha hb hk ?_ rfl hs
  obtain ⟨n, e, h2⟩ := gx_atI hx
  rw [gx_ixp, List.length_set, List.length_map, e]
  show _ = _
  have hl := (List.getElem?_eq_some_iff.mp h2).1
  unfold ixn
  rw [e]
  show ((xs.map fun x => Slot.own (f x)).set n (.v (.ref q)))[n]? = _
  rw [List.getElem?_set, if_pos rfl, if_pos (by rw [List.length_map]; exact hl)]
end
/-! ### defs that promise this or that -/
/-! ### calls of methods and makers with keywords -/
end J
namespace J
open PySem PySem.Spec PyProof.Rows L2
open PySem.W (Datum)
/-! ### tuples that hold own things -/
section
variable {X : Cx} {B : Base} {S S1 S2 : Stt} {x : Slot} {e : Expr} {es : List Expr} {pos : Pos} {D : FE} {rest : List Stmt} {p : Addr} {c : Cel}
theorem ss_plain {G H : Hp} : ∀ {ss : List Slot} {vs : List V} {as : List Addr}, SsI G H ss vs as → (∀ s ∈ ss, s.plain = true) → as = [] ∧ ∀ H', SsI G H' ss vs []
  | _, _, _, .nil, _ => ⟨rfl, fun _ => .nil⟩
  | _, _, _, .cons h1 h2, hp => by
    obtain ⟨e2, k2⟩ := ss_plain h2 fun s hs => hp s (List.mem_cons_of_mem _ hs)
    have e1 := h1.nil (hp _ List.mem_cons_self)
    subst e1
    subst e2
    exact ⟨rfl, fun H' => .cons (as := []) (h1.ok (hp _ List.mem_cons_self)).sl (k2 H')⟩
/-- (e, ..), where some are own -/
theorem je_otup {xs : List Slot} {kk : Nat} (ha : JA X B S es S1 xs) (hl : xs.length ≤ 1000 := by exact Nat.le_of_ble_eq_true rfl) : JE X B S (.Tuple es kk pos) S1 (.otup xs) := fun T tv σ H Q hs q =>
  pe1 (pe_tup pa0) (ha _ _ _ _ _ hs fun vs H1 he h1 => ⟨Nat.le_trans (Nat.le_of_eq he) (Nat.le_trans hl (by decide)), fun p hp => by
    obtain ⟨G, as, bs, z⟩ := h1
    obtain ⟨a1, a2, rfl, g1, z'⟩ := z.split he.symm
    have hG : G p = none := ex_none z.sub hp
    have eg : Ex G (upd G p (.tup vs)) := ex_upd (Ex.refl G) hG
    have n1 : ∀ a ∈ a1 ++ a2 ++ bs, a ≠ p := z.fresh hp
    refine q _ _ ⟨upd G p (.tup vs), a1 ++ a2, bs, .cons (.otup upd_same (g1.mono eg fun a ha => upd_ne (n1 a (by simp [ha])))) (z'.tmp.mono eg fun a ha => upd_ne (n1 a (by simp [ha]))), z.cel.mono eg fun a ha => upd_ne (n1 a (by simp [ha])), z.slo.mono eg, z.nod, fun a ha => ?_, z.gro.trans eg, fun a u ha => ?_, fun a u ha => ?_, ex_upd z.frm (ex_none z.frm hp)⟩
    · rw [upd_ne (n1 a ha)]
      exact z.fre a ha
    · by_cases e : a = p
      · subst e
        exact .inr (.inl (ex_none z.frm hp))
      · rw [upd_ne e] at ha
        exact z.new a u ha
    · by_cases e : a = p
      · subst e
        rw [upd_same] at ha ⊢
        exact ha
      · rw [upd_ne e] at ha ⊢
        exact z.sub a u ha⟩)
/-- a told tuple, of which the first one stands at l -/
def Td (l : Addr) (ts : List Slot) : Hp → V → Prop := fun G u => ∃ t vs, u = .ref t ∧ G t = some (.tup (.ref l :: vs)) ∧ ∀ H, SsI G H ts vs []
theorem td_mono {l : Addr} {ts : List Slot} : Mono (Td l ts) := fun G G' u e ⟨t, vs, h1, h2, h3⟩ => ⟨t, vs, h1, e _ _ h2, fun H => (h3 H).mono e fun _ ha => nomatch ha⟩
/-- a list's tuple opened: its own thing stands beside it -/
theorem js_openT (k : Nat) {A Bs ts : List Slot} (hk : S.cs[k]? = some (p, .lst (A ++ .otup (.own c :: ts) :: Bs))) (hp : ∀ s ∈ ts, s.plain = true) (h : ∀ l, JS X B ⟨S.sl, S.cs.set k (p, .lst (A ++ .say (Td l ts) :: Bs)) ++ [(l, c)]⟩ rest D) : JS X B S rest D := fun T tv σ H hs => by
  obtain ⟨G, as0, bs, z⟩ := hs
  obtain ⟨l0, o, m, r, rfl, hpp, hc, reb⟩ := z.cel.at k hk (by nofun)
  cases hc with
  | @lst _ vs _ hss =>
    have hlen := hss.len
    rw [List.length_append] at hlen
    have hv : A.length = (vs.take A.length).length := by rw [List.length_take]; omega
    have hss2 := hss
    rw [← List.take_append_drop A.length vs] at hss2
    obtain ⟨mA, m2, rfl, hA, h2⟩ := SsI.split hv hss2
    generalize hd : vs.drop A.length = dv at h2
    cases h2 with
    | @cons _ u m3 _ vb m4 g1 g2 =>
      cases g1 with
      | @otup _ ws t _ ht hts =>
        cases hts with
        | @cons _ w m5 _ ws' m6 g3 g4 =>
          cases g3 with
          | @own _ l ol al hl hcl =>
            obtain ⟨rfl, g5⟩ := ss_plain g4 hp
            have top : SlI G H (.say (Td l ts)) (.ref t) [] := .say td_mono ⟨t, ws', rfl, ht, g5⟩
            have hnew : CeI G H (.lst (A ++ .say (Td l ts) :: Bs)) (.lst vs) (mA ++ ([] ++ m4)) := by
              have e : vs = vs.take A.length ++ (V.ref t :: vb) := by rw [← hd, List.take_append_drop]
              rw [e]
              exact .lst (hA.app (.cons top g2))
            have c2 := (reb (Ex.refl G) fun _ _ => rfl).1 hpp hnew
            have c3 := c2.app (CsI.cons hl hcl .nil)
            have pm : (l0 ++ p :: (mA ++ ([] ++ m4)) ++ r ++ (l :: (al ++ []))).Perm (l0 ++ (p :: (mA ++ (l :: al ++ [] ++ m4))) ++ r) := by
              rw [List.append_nil, List.append_nil, List.nil_append, List.append_assoc l0, List.append_assoc l0, List.append_assoc l0]
              refine List.Perm.append_left l0 ?_
              show (p :: (mA ++ m4 ++ r ++ (l :: al))).Perm (p :: (mA ++ (l :: al ++ m4) ++ r))
              refine List.Perm.cons p ?_
              rw [List.append_assoc mA, List.append_assoc mA, List.append_assoc mA]
              refine List.Perm.append_left mA ?_
              rw [List.append_assoc m4, List.append_assoc]
              exact (List.append_assoc m4 r (l :: al) ▸ List.perm_append_comm : (m4 ++ (r ++ (l :: al))).Perm ((l :: al) ++ (m4 ++ r)))
            have pm2 := List.Perm.append_left as0 pm
            exact h l T tv σ H ⟨G, as0, _, z.tmp, c3, z.slo, pm2.nodup_iff.mpr z.nod, fun a ha => z.fre a (pm2.mem_iff.mp ha), z.gro, z.new, z.sub, z.frm⟩
/-- l, .. = t -/
theorem jg_td {kk : Nat} {l : Addr} {ts : List Slot} {ws : List Nat} (h : JGs X B S es (.v (.ref l) :: ts) S1 ws) (hc : X.calm = true := by rfl) (hn : (assignEach es X.env).length = ts.length + 1 := by rfl) (hst : (assignEach es X.env).findIdx? (·.1) = none := by rfl) : JG X B S (.Tuple es kk pos) (.say (Td l ts)) S1 ws := fun T tv σ v H Q hs q =>
  pg1 (pg_tup hc pgs0 rfl hst) (by
    obtain ⟨G, as, bs, z⟩ := hs
    obtain ⟨a1, a2, rfl, g, z'⟩ := z.pop
    cases g with
    | say m g =>
      obtain ⟨t, vs, rfl, ht, hts⟩ := g
      have hss : SsI G H (.v (.ref l) :: ts) (.ref l :: vs) [] := .cons (as := []) .v (hts H)
      refine ⟨t, _, rfl, .of (z.sub _ _ ht), by rw [hn, ← hss.len]; rfl, ?_⟩
      exact h _ _ _ _ _ _ hss.len.symm ⟨G, [] ++ a2, bs, hss.app z'.tmp, z'.cel, z'.slo, z'.nod, z'.fre, z'.gro, z'.new, z'.sub, z'.frm⟩ q)
/-! two such, opened; gone through by turns -/
def two {α : Type} (xs : List α) : Option (α × α) := match xs with
  | [a, b] => some (a, b)
  | _ => none
theorem two_eq {α : Type} {xs : List α} {r : α × α} (h : two xs = some r) : xs = [r.1, r.2] := by
  unfold two at h
  split at h
  · cases h
    rfl
  · cases h
theorem js_open2 {α : Type} {xs : List α} {r : α × α} {cf : α → Cel} {tf : α → List Slot} (k : Nat) (h2 : two xs = some r) (hk : S.cs[k]? = some (p, .lst (xs.map fun y => .otup (.own (cf y) :: tf y)))) (hp : ∀ y, ∀ s ∈ tf y, s.plain = true)
    (h : ∀ l0 l1, JS X B ⟨S.sl, (S.cs.set k (p, .lst [.say (Td l0 (tf r.1)), .say (Td l1 (tf r.2))]) ++ [(l0, cf r.1)]) ++ [(l1, cf r.2)]⟩ rest D) : JS X B S rest D := by
  rw [two_eq h2] at hk
  refine js_openT k (A := []) hk (hp _) fun l0 => ?_
  have hlt : k < S.cs.length := by
    have := (List.getElem?_eq_some_iff.mp hk).1
    exact this
  refine js_openT (S := ⟨S.sl, S.cs.set k (p, .lst [.say (Td l0 (tf r.1)), .otup (.own (cf r.2) :: tf r.2)]) ++ [(l0, cf r.1)]⟩) k (p := p) (A := [.say (Td l0 (tf r.1))]) (Bs := []) (ts := tf r.2) (c := cf r.2) ?_ (hp _) fun l1 => ?_
  · show (S.cs.set k _ ++ _)[k]? = _
    rw [List.getElem?_append_left (by rw [List.length_set]; exact hlt), List.getElem?_set_self hlt]
    rfl
  · have e : (S.cs.set k (p, Cel.lst [.say (Td l0 (tf r.1)), .otup (.own (cf r.2) :: tf r.2)]) ++ [(l0, cf r.1)]).set k (p, Cel.lst [.say (Td l0 (tf r.1)), .say (Td l1 (tf r.2))]) = S.cs.set k (p, .lst [.say (Td l0 (tf r.1)), .say (Td l1 (tf r.2))]) ++ [(l0, cf r.1)] := by
      rw [List.set_append_left _ _ (by rw [List.length_set]; exact hlt), List.set_set]
    show JS X B ⟨S.sl, (S.cs.set k (p, Cel.lst [.say (Td l0 (tf r.1)), .otup (.own (cf r.2) :: tf r.2)]) ++ [(l0, cf r.1)]).set k (p, Cel.lst [.say (Td l0 (tf r.1)), .say (Td l1 (tf r.2))]) ++ [(l1, cf r.2)]⟩ rest D
    rw [e]
    exact h l0 l1
theorem lh_cellS (k : Nat) {ss : List Slot} (hk : S.cs[k]? = some (p, .lst ss)) (hp : ∀ s ∈ ss, s.plain = true) : Lh B S (.v (.ref p)) ss := fun z => by
  obtain ⟨a1, a2, _, h, z'⟩ := z.pop
  cases h with
  | v =>
    obtain ⟨l, o, m, r, _, hp', hc, _⟩ := z.cel.at k hk (by intro e; cases e)
    cases hc with
    | @lst _ vs _ hss => exact ⟨p, vs, rfl, hp', (ss_plain hss hp).2 _⟩
theorem lh_ownS {ss : List Slot} (hp : ∀ s ∈ ss, s.plain = true) : Lh B S (.own (.lst ss)) ss := fun z => by
  obtain ⟨a1, a2, _, h, z'⟩ := z.pop
  cases h with
  | own hp' hc =>
    cases hc with
    | @lst _ vs _ hss => exact ⟨_, vs, rfl, hp', (ss_plain hss hp).2 _⟩
theorem lv_ownS {ss : List Slot} (hp : ∀ s ∈ ss, s.plain = true) : Lv X.K B S (.own (.lst ss)) ss := fun z => by
  obtain ⟨a1, a2, _, h, z'⟩ := z.pop
  cases h with
  | own hp' hc =>
    cases hc with
    | @lst _ vs _ hss => exact ⟨_, vs, rfl, .of hp', (ss_plain hss hp).2 _⟩
theorem say2 {φ ψ : Hp → V → Prop} : ∀ s ∈ [Slot.say φ, Slot.say ψ], s.plain = true := fun s hs => by
  simp only [List.mem_cons, List.not_mem_nil, or_false] at hs
  rcases hs with rfl | rfl <;> rfl
/-- xs + xs[:1] of a list of two -/
theorem ji_sides {tg a b : Expr} {hi : Option Expr} {p2 pos2 : Pos} {φ ψ : Hp → V → Prop} (k : Nat) (ha : JE X B S a S (.v (.ref p))) (hb : JE X B S b S (.v (.ref p))) (hk : S.cs[k]? = some (p, .lst [.say φ, .say ψ])) (hlo : JO X B S none S none) (hhi : JO X B S hi S (some 1)) :
    JI X B S tg (.BinOp a .Add (.Subscript b (.Slice none hi none p2) pos2) pos) S [.own (.lst [.say φ, .say ψ, .say φ])] [.say φ, .say ψ, .say φ] (fun _ => True) := by
  have pl3 : ∀ s ∈ [Slot.say φ, Slot.say ψ, Slot.say φ], s.plain = true := fun s hs => by
    simp only [List.mem_cons, List.not_mem_nil, or_false] at hs
    rcases hs with rfl | rfl | rfl <;> rfl
  have cut : JE X B S (.Subscript b (.Slice none hi none p2) pos2) S (.own (.lst [.say φ])) := je_slc hb hlo hhi (lv_cell k hk say2)
  exact ji_listV (je_cat ha cut (lh_cellS k hk say2) (lh_ownS fun s hs => by
    simp only [List.mem_cons, List.not_mem_nil, or_false] at hs
    rw [hs]
    rfl) (by show 2 + 1 ≤ 16777216; decide)) (lv_ownS pl3) fun _ _ => lv_ownS pl3
end
end J
namespace J
open PySem PySem.Spec PyProof.Rows L2
open PySem.W (Datum)
/-! ### an own list of own lists, lent for an expression that tells a number, a truth value or a text -/
abbrev intsC (xs : List Int) : Cel := .lst (xs.map Slot.val)
theorem ints_flat {G G2 H : Hp} (xs : List Int) : ∀ (vs : List V) (as : List Addr), SsI G H (xs.map Slot.val) vs as → as = [] ∧ DqAll G2 vs (xs.map Datum.toD) := by
  induction xs with
  | nil =>
    intro vs as h
    cases h
    exact ⟨rfl, .nil⟩
  | cons x xs ih =>
    intro vs as h
    cases h with
    | cons h1 h2 =>
      obtain ⟨rfl, k⟩ := ih _ _ h2
      cases h1 with
      | val g =>
        cases (show Dq G _ (PyData.int x) from g) with
        | int => exact ⟨rfl, .cons (.int x) k⟩
theorem tree_told {G H G2 : Hp} (xss : List (List Int)) : ∀ (vs : List V) (m : List Addr), SsI G H (xss.map fun x => Slot.own (intsC x)) vs m → (∀ a ∈ m, G2 a = H a) → DqAll G2 vs (xss.map Datum.toD) := by
  induction xss with
  | nil =>
    intro vs m h _
    cases h
    exact .nil
  | cons x xss ih =>
    intro vs m h hm
    cases h with
    | cons h1 h2 =>
      have k := ih _ _ h2 fun a ha => hm a (List.mem_append_right _ ha)
      cases h1 with
      | @own _ p o as hp hc =>
        cases hc with
        | lst hs =>
          have e := hm p (List.mem_append_left _ List.mem_cons_self)
          exact .cons (.lst (e.trans hp) (ints_flat x _ _ hs).2) k
/-- data that holds no reference -/
def Flat (d : PyData) : Prop := ∀ {G G2 : Hp} {v : V}, Dq G v d → Dq G2 v d
theorem flat_str (x : Str) : Flat (.str x) := fun h => by cases h; exact .str x
theorem flat_int (i : Int) : Flat (.int i) := fun h => by cases h; exact .int i
theorem SgI.put {G : Hp} {sl : List Slot} {σ : L2.St} (h : SgI G sl σ) {i : Nat} {s : Slot} {o : Option V} (ho : σ[i]? = some o) (hs : SlOk G s o) : SgI G (sl.set i s) σ := by
  refine ⟨by rw [List.length_set]; exact h.1, fun j s' hj => ?_⟩
  by_cases e : i = j
  · subst e
    have hl := (List.getElem?_eq_some_iff.mp hj).1
    rw [List.length_set] at hl
    rw [List.getElem?_set_self hl] at hj
    cases hj
    exact ⟨o, ho, hs⟩
  · rw [List.getElem?_set_ne e] at hj
    exact h.2 j s' hj
section
variable {X : Cx} {B : Base} {S : Stt} {e : Expr} {p : Addr} {xss : List (List Int)}
/-- the told state, and the way back -/
theorem lend_core {T : List Slot} {σ : L2.St} {tv : List V} {H : Hp} (k i : Nat) (hk : S.cs[k]? = some (p, mlC intsC xss)) (hi : S.sl[i]? = some (.v (.ref p))) (hs : Sta B S T σ tv H) :
    ∃ B' : Base, Sta B' ⟨S.sl.set i (.val xss), []⟩ [] σ [] H ∧ ∀ {H' : Hp} {T' : List Slot} {tv' : List V}, Sta B' ⟨S.sl.set i (.val xss), []⟩ T' σ tv' H' → Sta B S T σ tv H' := by
  obtain ⟨G, as, bs, z⟩ := hs
  obtain ⟨l, o, m, r, rfl, hp, hc, _⟩ := z.cel.at k hk (by nofun)
  unfold mlC at hc
  cases hc with
  | @lst _ vs _ hss =>
    have inb : ∀ a ∈ p :: m, a ∈ as ++ (l ++ p :: m ++ r) := fun a ha => List.mem_append_right _ (List.mem_append_left _ (List.mem_append_right _ ha))
    let G' : Hp := fun a => if a ∈ p :: m then H a else G a
    let F' : Hp := fun a => if a ∈ as ++ (l ++ p :: m ++ r) then H a else B.F a
    have eG : Ex G G' := fun a u ha => by
      show (if a ∈ p :: m then H a else G a) = some u
      rw [if_neg fun hm => by rw [(z.fre a (inb a hm)).1] at ha; cases ha]
      exact ha
    have at_ : ∀ a ∈ p :: m, G' a = H a := fun a ha => if_pos ha
    have told : Dq G' (.ref p) (Datum.toD xss) := .lst ((at_ p List.mem_cons_self).trans hp) (tree_told xss _ _ hss fun a ha => at_ a (List.mem_cons_of_mem _ ha))
    obtain ⟨o', h1, h2⟩ := z.slo.2 i _ hi
    have h2 : o' = some (.ref p) := h2
    subst h2
    have subG : Ex G' H := fun a u ha => by
      have ha : (if a ∈ p :: m then H a else G a) = some u := ha
      split at ha
      · exact ha
      · exact z.sub a u ha
    have frmF : Ex F' H := fun a u ha => by
      have ha : (if a ∈ as ++ (l ++ p :: m ++ r) then H a else B.F a) = some u := ha
      split at ha
      · exact ha
      · exact z.frm a u ha
    refine ⟨⟨G', F'⟩, ⟨G', [], [], .nil, .nil, SgI.put (z.slo.mono eG) h1 ⟨_, rfl, told⟩, List.nodup_nil, (fun a ha => nomatch ha), Ex.refl _, (fun a u ha => .inl ha), subG, frmF⟩, fun {H' T' tv'} g => ?_⟩
    obtain ⟨G2, as2, bs2, y⟩ := g
    have same : ∀ a ∈ as ++ (l ++ p :: m ++ r), H' a = H a := fun a ha => by
      have ex : ∃ u, H a = some u := by
        rcases List.mem_append.mp ha with h | h
        · exact z.tmp.def a h
        · exact z.cel.def a h
      obtain ⟨u, hu⟩ := ex
      have : F' a = some u := by
        show (if a ∈ as ++ (l ++ p :: m ++ r) then H a else B.F a) = some u
        rw [if_pos ha]
        exact hu
      rw [hu]
      exact y.frm a u this
    refine ⟨G, as, l ++ p :: m ++ r, z.tmp.mono (Ex.refl G) fun a ha => same a (List.mem_append_left _ ha), z.cel.mono (Ex.refl G) fun a ha => same a (List.mem_append_right _ ha), z.slo, z.nod, z.fre, z.gro, z.new, fun a u ha => y.sub a u (y.gro a u (eG a u ha)), fun a u ha => ?_⟩
    refine y.frm a u ?_
    show (if a ∈ as ++ (l ++ p :: m ++ r) then H a else B.F a) = some u
    rw [if_neg fun hm => by rw [(z.fre a hm).2] at ha; cases ha]
    exact ha
theorem je_lend {β : Type} [DecidableEq β] [Datum β] {t : β} (k i : Nat) (hk : S.cs[k]? = some (p, mlC intsC xss)) (hi : S.sl[i]? = some (.v (.ref p))) (hf : Flat (Datum.toD t)) (h : ∀ B', JE X B' ⟨S.sl.set i (.val xss), []⟩ e ⟨S.sl.set i (.val xss), []⟩ (.val t)) : JE X B S e S (.val t) := fun T tv σ H Q hs q => by
  obtain ⟨B', h1, back⟩ := lend_core k i hk hi hs
  refine h B' [] [] σ H Q h1 fun v H' g => q v H' ?_
  have hb := back g
  obtain ⟨G2, as2, bs2, y⟩ := g
  obtain ⟨a1, a2, _, g1, _⟩ := y.pop
  cases g1 with
  | val g1 =>
    obtain ⟨G, as, bs, z⟩ := hb
    exact ⟨G, [] ++ as, bs, .cons (.val (hf g1)) z.tmp, z.cel, z.slo, z.nod, z.fre, z.gro, z.new, z.sub, z.frm⟩
theorem jt_lend {t : Bool} (k i : Nat) (hk : S.cs[k]? = some (p, mlC intsC xss)) (hi : S.sl[i]? = some (.v (.ref p))) (h : ∀ B', JT X B' ⟨S.sl.set i (.val xss), []⟩ e ⟨S.sl.set i (.val xss), []⟩ t) : JT X B S e S t := fun T tv σ H Q hs q => by
  obtain ⟨B', h1, back⟩ := lend_core k i hk hi hs
  exact h B' [] [] σ H Q h1 fun H' g => q H' (back g)
theorem je_appMM {o a : Expr} {pos apos : Pos} {S1 S2 : Stt} {ys : List Int} {zs : List (List Int)} (k : Nat) (ho : JE X B S o S1 (.v (.ref p))) (hk0 : S1.cs[k]? = some (p, mlC intsC xss)) (he : JE X B S1 a S2 (.own (intsC ys))) (hk : S2.cs[k]? = some (p, mlC intsC xss)) (h : psh xss ys = some zs)
    (hbase : attributeBase o "append" X.env (eval o X.env) = eval o X.env := by rfl) (hst : starEach [a] X.env = (false, eval a X.env) :: starEach [] X.env := by rfl)
    (hfew : ((backTo pos (starEach [a] X.env)).all (fun x => !x.1) && (backToKw pos (keywordEach [] X.env)).all (fun x => x.1.isSome) && decide (([a] : List Expr).length + ([] : List Keyword).length + (if ([] : List Keyword).isEmpty then 0 else 1) < 30)) = true := by rfl)
    (hline : (apos.endLine == pos.line) = true := by rfl) : JE X B S (.Call (.Attribute o "append" apos) [a] [] pos) ⟨S2.sl, S2.cs.set k (p, mlC intsC zs)⟩ (.v .non) := by
  unfold psh at h
  split at h
  · rename_i hl
    cases h
    have e : ∀ l : List (List Int), mlC intsC l = ownL (l.map intsC) := fun l => by
      unfold mlC ownL
      rw [List.map_map]
      rfl
    rw [e] at hk0 hk
    have := je_appendO k ho hk0 he hk (by rw [List.length_map]; exact hl) hbase hst hfew hline
    rw [e, List.map_append]
    exact this
  · cases h
theorem fz_mll : ∀ xss : List (List Int), FzA (xss.map fun x => Slot.own (intsC x)) (xss.map Datum.toD)
  | [] => .nil
  | x :: xss => .cons (.own (fz_val x)) (fz_mll xss)
theorem je_frMM {S1 : Stt} (h : JE X B S e S1 (.own (mlC intsC xss))) : JE X B S e S1 (.val xss) := je_frz h (.own (.lst (fz_mll xss)))
end
end J
namespace Gk22
open PySem PySem.Spec PyProof.Rows L2
/-! ### the mirrors -/
def m_law_bag_b0 (s2 : ((List Int) × Int)) (x4 : Int) : Option ((List Int) × Int) :=
  ((if (decide (x4 < 0)) = true then ( some (3 - x4)) else ( some x4) : Option Int)).bind fun s5 => (some (((((s2.2 * 1000003) + s5) + 1) % (2305843009213693952 - 1)) : Int)).bind fun x7 => ((if (decide (1000000000000000000 ≤ s5)) = true then ((J.psh s2.1 (s5 - 1000000000000000000)).bind fun x10 => some x10) else ( some s2.1) : Option (List Int))).bind fun s8 => some (s8, x7)
def m_law_bag (a0 : List Int) : Option ((List Int) × (Int × Int)) :=
  (J.forM (m_law_bag_b0) a0 (([] : List Int), 5)).bind fun s11 => some (s11.1, (s11.2, 0))
def m_law_draw_t0 (s1 : (List Int)) : Option Bool :=
  (J.andM (decide (s1 ≠ ([] : List Int))) ((J.gx s1 0).bind fun x3 => some (decide (x3 = 0)))).bind fun x4 => some x4
def m_law_draw_w1 (s1 : (List Int)) : Option (List Int) :=
  (J.popG s1 0).bind fun x5 => some x5.2
def m_law_draw (a1 : Int) (a0_0 : (List Int)) (a0_1 : Int) (a0_2 : Int) : Option (Int × (Int × (List Int))) :=
  (J.whileM (m_law_draw_t0) (m_law_draw_w1) 1000000 a0_0).bind fun s6 => if (decide (s6 ≠ ([] : List Int))) = true then ((J.gx s6 0).bind fun x7 => (J.modG x7 a1).bind fun x8 => (J.gx s6 0).bind fun x9 => (J.divG x9 a1).bind fun x10 => (J.stx s6 0 x10).bind fun x11 => some (x8, ((a0_2 + 1), x11))) else ( (J.powG ((a0_2 + 1) + 11) 3).bind fun x12 => (J.mulG (a0_1 + 40961) x12).bind fun x13 => (some (((x13 + (7907 * (a0_2 + 1))) % (2305843009213693952 - 1)) : Int)).bind fun x14 => (J.powG x14 3).bind fun x15 => (J.modG ((x15 % (1000000000000000000 + 9)) / 64) a1).bind fun x16 => some (x16, ((a0_2 + 1), s6)))
def m_law_most (a0_0 : (List Int)) (a0_1 : Int) (a0_2 : Int) : Option (Int × (Int × (List Int))) :=
  (m_law_draw 8 a0_0 a0_1 a0_2).bind fun x1 => (J.gx ([8, 14, 14, 30, 30, 30, 60, 200] : List Int) x1.1).bind fun x2 => some (x2, (x1.2.1, x1.2.2))
def m_law_pages (a0_0 : (List Int)) (a0_1 : Int) (a0_2 : Int) : Option ((List Int) × (Int × (List Int))) :=
  (m_law_draw 80 a0_0 a0_1 a0_2).bind fun x1 => (some (([0, 1, 2, 9, 10, 100, (1000000000 - 1), 1000000000, (11 + x1.1)] : List Int) : (List Int))).bind fun x2 => (m_law_draw 9 x1.2.2 a0_1 x1.2.1).bind fun x3 => (J.catG (J.slc x2 (some x3.1) none) (J.slc x2 none (some x3.1))).bind fun x4 => some (x4, (x3.2.1, x3.2.2))
def m_law_line_c0 (x6 : (Int × (Int × (List Int)))) (x7 : (Int × (Int × (List Int)))) (s10 : Unit) (x12 : Int) : Option (Option Int × Unit) :=
  (J.mulG (1 + x7.1) x12).bind fun x13 => some (some (x6.1 + x13), ())
def m_law_line_b1 (a0_1 : Int) (s4 : (Int × ((List Int) × ((List Int) × Int)))) (x15 : (Int × (Int × (List Int)))) (s19 : (Int × ((List Int) × (List Int)))) (x21 : Int) : Option (Int × ((List Int) × (List Int))) :=
  (m_law_draw s4.2.2.2 s19.2.1 a0_1 s19.1).bind fun x22 => (m_law_draw s4.2.2.2 x22.2.2 a0_1 x22.2.1).bind fun x23 => (J.modG x21 s4.2.2.2).bind fun x24 => (J.modG (x21 / 3) s4.2.2.2).bind fun x25 => (J.gx ([x22.1, x23.1, x24, x25] : List Int) x15.1).bind fun x26 => (m_law_draw 8 x23.2.2 a0_1 x23.2.1).bind fun x27 => ((if (decide (x27.1 = 0)) = true then ((m_law_draw ((s4.2.2.1).length : Int) x27.2.2 a0_1 x27.2.1).bind fun x30 => some (x30.2.1, (x30.2.2, x30.1))) else ( some (x27.2.1, (x27.2.2, x26))) : Option (Int × ((List Int) × Int)))).bind fun s28 => (J.gx s4.2.2.1 s28.2.2).bind fun x31 => (J.psh s19.2.2 x31).bind fun x32 => some (s28.1, (s28.2.1, x32))
def m_law_line (a1 : Int) (a0_0 : (List Int)) (a0_1 : Int) (a0_2 : Int) : Option ((List Int) × (Int × (List Int))) :=
  (m_law_pages a0_0 a0_1 a0_2).bind fun x1 => (m_law_draw 9 x1.2.2 a0_1 x1.2.1).bind fun x2 => (m_law_draw 4 x2.2.2 a0_1 x2.2.1).bind fun x3 => ((if (decide (x3.1 = 3)) = true then ((m_law_draw 100000000 x3.2.2 a0_1 x3.2.1).bind fun x6 => (m_law_draw 1000000 x6.2.2 a0_1 x6.2.1).bind fun x7 => (m_law_draw 71 x7.2.2 a0_1 x7.2.1).bind fun x8 => (J.rngG (10 + x8.1)).bind fun x9 => (J.lcM (m_law_line_c0 x6 x7) x9 ()).bind fun x14 => some (x8.2.1, (x8.2.2, (x14.1, ((x14.1).length : Int))))) else ( some (x3.2.1, (x3.2.2, (x1.1, (1 + x2.1))))) : Option (Int × ((List Int) × ((List Int) × Int))))).bind fun s4 => (m_law_draw 4 s4.2.1 a0_1 s4.1).bind fun x15 => (m_law_draw (a1 + 1) x15.2.2 a0_1 x15.2.1).bind fun x17 => (J.rngG x17.1).bind fun x18 => (J.forM (m_law_line_b1 a0_1 s4 x15) x18 (x17.2.1, (x17.2.2, ([] : List Int)))).bind fun s33 => some (s33.2.2, (s33.1, s33.2.1))
def m_law_wide (a0_0 : (List Int)) (a0_1 : Int) (a0_2 : Int) : Option (Int × (Int × (List Int))) :=
  (m_law_draw 4 a0_0 a0_1 a0_2).bind fun x1 => (J.gx ([4, 12, 12, 300] : List Int) x1.1).bind fun x2 => (m_law_draw x2 x1.2.2 a0_1 x1.2.1).bind fun x3 => some ((1 + x3.1), (x3.2.1, x3.2.2))
def m_law_due_c0 (a1 : Int) (x5 : (Int × Int)) (x6 : (List (Int × Int))) (s7 : Unit) (x9 : Int) : Option (Option Int × Unit) :=
  (J.dget x6 x9).bind fun x10 => if (decide ((x5.1 - a1) < x10)) = true then  some (some x9, ()) else some (none, ())
def m_law_due_b1 (a1 : Int) (s3 : ((List (Int × Int)) × (List (List Int)))) (x5 : (Int × Int)) : Option ((List (Int × Int)) × (List (List Int))) :=
  (J.dputG s3.1 x5.2 x5.1).bind fun x6 => (J.lcM (m_law_due_c0 a1 x5 x6) (x6.map (·.1)) ()).bind fun x11 => (J.psh s3.2 (J.sortI x11.1)).bind fun x12 => some (x6, x12)
def m_law_due (a1 : Int) (a0 : (List Int)) : Option (List (List Int)) :=
  (J.forM (m_law_due_b1 a1) (J.enu 0 a0) (([] : List (Int × Int)), ([] : List (List Int)))).bind fun s13 => some s13.2
def m_need_window (a0 : Int) (a1 : Int) : Option Unit :=
   if (decide (a0 < 1)) = true then ( none) else (  some ())
def m_working_c0 (a1 : Int) (a0 : (List Int)) (s3 : Unit) (x5 : Int) : Option (Option (List Int) × Unit) :=
  (J.setG (J.slc a0 (some (if ((x5 + 1) - a1) > 0 then ((x5 + 1) - a1) else 0)) (some (x5 + 1)))).bind fun x6 => some (some x6, ())
def m_working (a1 : Int) (a0 : (List Int)) : Option (List (List Int)) :=
  (m_need_window a1 a1).bind fun x1 => (J.rngG ((a0).length : Int)).bind fun x2 => (J.lcM (m_working_c0 a1 a0) x2 ()).bind fun x7 => some x7.1
def m_law_c0 (x1 : ((List Int) × (Int × Int))) (s5 : (Int × (List Int))) (x7 : Int) : Option (Option ((List Int) × Int) × (Int × (List Int))) :=
  (m_law_most s5.2 x1.2.1 s5.1).bind fun x8 => (m_law_line x8.1 x8.2.2 x1.2.1 x8.2.1).bind fun x9 => (m_law_wide x9.2.2 x1.2.1 x9.2.1).bind fun x10 => some (some (x9.1, x10.1), (x10.2.1, x10.2.2))
def m_law_c1 (s32 : Unit) (x34 : (List Int)) : Option (Option (List Int) × Unit) :=
  (J.catG x34 ([5] : List Int)).bind fun x35 => some (some x35, ())
def m_law_b2 (x19 : (List (List Int))) (s25 : (List (List Int))) (x27 : Int) : Option (J.Lp (List (List Int)) Bool) :=
  (J.gx s25 x27).bind fun x28 => (J.psh x28 5).bind fun x30 => (J.stx s25 x27 x30).bind fun x31 => (J.orM (decide ((J.slc x31 (some (x27 + 1)) none) ≠ (J.slc x19 (some (x27 + 1)) none))) ((J.lcM (m_law_c1) (J.slc x19 none (some x27)) ()).bind fun x36 => some (decide ((J.slc x31 none (some x27)) ≠ x36.1)))).bind fun x37 => if x37 = true then ( some (.rt false)) else (  some (.nx x31))
def m_law_c3 (s61 : Unit) (x63 : (List Int)) : Option (Option (List Int) × Unit) :=
  (J.catG x63 ([5] : List Int)).bind fun x64 => some (some x64, ())
def m_law_b4 (x48 : (List (List Int))) (s54 : (List (List Int))) (x56 : Int) : Option (J.Lp (List (List Int)) Bool) :=
  (J.gx s54 x56).bind fun x57 => (J.psh x57 5).bind fun x59 => (J.stx s54 x56 x59).bind fun x60 => (J.orM (decide ((J.slc x60 (some (x56 + 1)) none) ≠ (J.slc x48 (some (x56 + 1)) none))) ((J.lcM (m_law_c3) (J.slc x48 none (some x56)) ()).bind fun x65 => some (decide ((J.slc x60 none (some x56)) ≠ x65.1)))).bind fun x66 => if x66 = true then ( some (.rt false)) else (  some (.nx x60))
def m_law_b5 (x13 : (((List Int) × Int) × ((List Int) × Int))) (s16 : ((List Int) × (List Int))) (x18 : Bool) : Option (J.Lp ((List Int) × (List Int)) Bool) :=
  if x18 = true then ((m_law_due x13.2.2 s16.2).bind fun x48 => (m_working x13.2.2 s16.2).bind fun x49 => (J.reprG (PySem.W.Datum.toD (x49 : (List (List Int))))).bind fun x51 => (J.reprG (PySem.W.Datum.toD (x48 : (List (List Int))))).bind fun x52 => if ((decide (x51 ≠ x52)) || (decide (s16.2 ≠ s16.2))) = true then ( some (.rt false)) else ( (J.rngG ((x49).length : Int)).bind fun x53 => (J.forL (m_law_b4 x48) x53 x49).bind fun o68 => Sum.elim (fun s67 => (J.psh s67 ([] : List Int)).bind fun x69 => (m_working x13.2.2 s16.2).bind fun x70 => (J.reprG (PySem.W.Datum.toD (x70 : (List (List Int))))).bind fun x71 => (J.reprG (PySem.W.Datum.toD (x48 : (List (List Int))))).bind fun x72 => if (decide (x71 ≠ x72)) = true then ( some (.rt false)) else ( (m_working x13.2.2 (s16.2).reverse).bind fun x73 => (J.reprG (PySem.W.Datum.toD (x73 : (List (List Int))))).bind fun x74 => (m_law_due x13.2.2 (s16.2).reverse).bind fun x75 => (J.reprG (PySem.W.Datum.toD (x75 : (List (List Int))))).bind fun x76 => if (decide (x74 ≠ x76)) = true then ( some (.rt false)) else (  some (.nx (s16.1, (s16.2).reverse))))) (fun r => some (.rt r)) o68)) else ((m_law_due x13.1.2 s16.1).bind fun x19 => (m_working x13.1.2 s16.1).bind fun x20 => (J.reprG (PySem.W.Datum.toD (x20 : (List (List Int))))).bind fun x22 => (J.reprG (PySem.W.Datum.toD (x19 : (List (List Int))))).bind fun x23 => if ((decide (x22 ≠ x23)) || (decide (s16.1 ≠ s16.1))) = true then ( some (.rt false)) else ( (J.rngG ((x20).length : Int)).bind fun x24 => (J.forL (m_law_b2 x19) x24 x20).bind fun o39 => Sum.elim (fun s38 => (J.psh s38 ([] : List Int)).bind fun x40 => (m_working x13.1.2 s16.1).bind fun x41 => (J.reprG (PySem.W.Datum.toD (x41 : (List (List Int))))).bind fun x42 => (J.reprG (PySem.W.Datum.toD (x19 : (List (List Int))))).bind fun x43 => if (decide (x42 ≠ x43)) = true then ( some (.rt false)) else ( (m_working x13.1.2 (s16.1).reverse).bind fun x44 => (J.reprG (PySem.W.Datum.toD (x44 : (List (List Int))))).bind fun x45 => (m_law_due x13.1.2 (s16.1).reverse).bind fun x46 => (J.reprG (PySem.W.Datum.toD (x46 : (List (List Int))))).bind fun x47 => if (decide (x45 ≠ x47)) = true then ( some (.rt false)) else (  some (.nx ((s16.1).reverse, s16.2))))) (fun r => some (.rt r)) o39))
def m_law (a0 : List Int) : Option Bool :=
  (m_law_bag a0).bind fun x1 => (J.rngG 2).bind fun x4 => (J.lcM (m_law_c0 x1) x4 (x1.2.2, x1.1)).bind fun x11 => (J.two x11.1).bind fun x13 => (J.forL (m_law_b5 x13) ([false, true, false] : List Bool) (x13.1.1, x13.2.1)).bind fun o78 => Sum.elim (fun s77 =>  some true) (fun r => some r) o78
/-! ### the text -/
def top (i : Nat) : Stmt := PySem.Challenge.pw_pagerooms_k22_working_pages.main.body.getD i (.Pass ⟨0, 0, 0, 0⟩)
abbrev s__law_bag : Stmt := top 7
abbrev s__law_draw : Stmt := top 8
abbrev s__law_most : Stmt := top 12
abbrev s__law_pages : Stmt := top 9
abbrev s__law_line : Stmt := top 10
abbrev s__law_wide : Stmt := top 11
abbrev s__law_due : Stmt := top 13
abbrev s_need_window : Stmt := top 4
abbrev s_working : Stmt := top 5
abbrev s_law : Stmt := top 14
abbrev FnP (K : PySem.W.Frag) (x : Str) (st : Stmt) (f : Addr) (fd : FuncData) : Prop := FunD K x x (defArgs st) (defBody st) (defScope st) [] [] f fd
theorem sc__law_bag : FnScope ["script", "great", "fold", "cell"] ["script"] (defScope s__law_bag) := ⟨rfl, rfl, rfl, by decide +kernel, rfl, by decide +kernel, by decide +kernel⟩
theorem sc__law_draw : FnScope ["bag", "many", "great", "mixed", "one"] ["bag", "many"] (defScope s__law_draw) := ⟨rfl, rfl, rfl, by decide +kernel, rfl, by decide +kernel, by decide +kernel⟩
theorem sc__law_most : FnScope ["bag"] ["bag"] (defScope s__law_most) := ⟨rfl, rfl, rfl, by decide +kernel, rfl, by decide +kernel, by decide +kernel⟩
theorem sc__law_pages : FnScope ["bag", "base", "at"] ["bag"] (defScope s__law_pages) := ⟨rfl, rfl, rfl, by decide +kernel, rfl, by decide +kernel, by decide +kernel⟩
theorem sc__law_line : FnScope ["bag", "most", "some", "many", "kind", "found", "k", "first", "step", "at"] ["bag", "most"] (defScope s__law_line) := ⟨rfl, rfl, rfl, by decide +kernel, rfl, by decide +kernel, by decide +kernel⟩
theorem sc__law_wide : FnScope ["bag"] ["bag"] (defScope s__law_wide) := ⟨rfl, rfl, rfl, by decide +kernel, rfl, by decide +kernel, by decide +kernel⟩
theorem sc__law_due : FnScope ["line", "wide", "last", "found", "at", "page", "one"] ["line", "wide"] (defScope s__law_due) := ⟨rfl, rfl, rfl, by decide +kernel, rfl, by decide +kernel, by decide +kernel⟩
theorem sc_need_window : FnScope ["window", "what"] ["window", "what"] (defScope s_need_window) := ⟨rfl, rfl, rfl, by decide +kernel, rfl, by decide +kernel, by decide +kernel⟩
theorem sc_working : FnScope ["trace", "window", "at"] ["trace", "window"] (defScope s_working) := ⟨rfl, rfl, rfl, by decide +kernel, rfl, by decide +kernel, by decide +kernel⟩
theorem sc_law : FnScope ["script", "bag", "sides", "line", "wide", "kept", "due", "found", "at", "k", "one"] ["script"] (defScope s_law) := ⟨rfl, rfl, rfl, by decide +kernel, rfl, by decide +kernel, by decide +kernel⟩
structure Wd (K : PySem.W.Frag) (mg : Str → Option Value) where
  a__law_bag : Addr
  d__law_bag : FuncData
  F__law_bag : FnP K "_law_bag" s__law_bag a__law_bag d__law_bag
  g__law_bag : mg "_law_bag" = some (.ref a__law_bag)
  b__law_bag : Binds K d__law_bag ["script"] []
  a__law_draw : Addr
  d__law_draw : FuncData
  F__law_draw : FnP K "_law_draw" s__law_draw a__law_draw d__law_draw
  g__law_draw : mg "_law_draw" = some (.ref a__law_draw)
  b__law_draw : Binds K d__law_draw ["bag", "many"] []
  a__law_most : Addr
  d__law_most : FuncData
  F__law_most : FnP K "_law_most" s__law_most a__law_most d__law_most
  g__law_most : mg "_law_most" = some (.ref a__law_most)
  b__law_most : Binds K d__law_most ["bag"] []
  a__law_pages : Addr
  d__law_pages : FuncData
  F__law_pages : FnP K "_law_pages" s__law_pages a__law_pages d__law_pages
  g__law_pages : mg "_law_pages" = some (.ref a__law_pages)
  b__law_pages : Binds K d__law_pages ["bag"] []
  a__law_line : Addr
  d__law_line : FuncData
  F__law_line : FnP K "_law_line" s__law_line a__law_line d__law_line
  g__law_line : mg "_law_line" = some (.ref a__law_line)
  b__law_line : Binds K d__law_line ["bag", "most"] []
  a__law_wide : Addr
  d__law_wide : FuncData
  F__law_wide : FnP K "_law_wide" s__law_wide a__law_wide d__law_wide
  g__law_wide : mg "_law_wide" = some (.ref a__law_wide)
  b__law_wide : Binds K d__law_wide ["bag"] []
  a__law_due : Addr
  d__law_due : FuncData
  F__law_due : FnP K "_law_due" s__law_due a__law_due d__law_due
  g__law_due : mg "_law_due" = some (.ref a__law_due)
  b__law_due : Binds K d__law_due ["line", "wide"] []
  a_need_window : Addr
  d_need_window : FuncData
  F_need_window : FnP K "need_window" s_need_window a_need_window d_need_window
  g_need_window : mg "need_window" = some (.ref a_need_window)
  b_need_window : Binds K d_need_window ["window", "what"] []
  a_working : Addr
  d_working : FuncData
  F_working : FnP K "working" s_working a_working d_working
  g_working : mg "working" = some (.ref a_working)
  b_working : Binds K d_working ["trace", "window"] []
  a_law : Addr
  d_law : FuncData
  F_law : FnP K "law" s_law a_law d_law
  g_law : mg "law" = some (.ref a_law)
  b_law : Binds K d_law ["script"] []
  l_enumerate : mg "enumerate" = none
  l_len : mg "len" = none
  l_list : mg "list" = none
  l_max : mg "max" = none
  l_range : mg "range" = none
  l_repr : mg "repr" = none
  l_set : mg "set" = none
  l_sorted : mg "sorted" = none
section
variable {P : Program} {w : World} {K : PySem.W.Frag} {mg : Str → Option Value} {base : Heap}
def gkb_working_0 {α : Type} : List α → List α
  | [a, b] => [b, a]
  | x => x
theorem kb_working_0 (W : Wd K mg) : KBn K W.d_working ["trace", "window"] 0 ["window", "trace"] (fun _ ws => gkb_working_0 ws) (fun _ zs => gkb_working_0 zs) :=
  J.kb0 W.F_working _ gkb_working_0 (fun r => by
      cases r with
      | nil => exact .nil
      | cons r0 r =>
        cases r with
        | nil => exact (.cons r0 .nil)
        | cons r1 r =>
          cases r with
          | nil => exact (.cons r1 (.cons r0 .nil))
          | cons r2 r =>
            exact (.cons r0 (.cons r1 (.cons r2 r))))
    (fun _ _ _ _ _ _ ws hl => match ws, hl with | [a, b], _ => rfl)
structure G_law_bag where
  p0 : PySem.Addr
  a0 : List Int
  out : ((List Int) × (Int × Int))
abbrev R_law_bag (r : ((List Int) × (Int × Int))) : J.Slot := (J.Slot.own (J.Cel.lst [(J.Slot.own (J.Cel.lst ((r.1 : List Int).map J.Slot.val))), (J.Slot.val (r.2.1 : Int)), (J.Slot.val (r.2.2 : Int))]))
abbrev C_law_bag (p0 : PySem.Addr) (a0 : List Int) (r : ((List Int) × (Int × Int))) : List (PySem.Addr × J.Cel) := []
abbrev A_law_bag (p0 : PySem.Addr) (a0 : List Int) : List J.Slot := [(J.Slot.v (.ref p0))]
abbrev D_law_bag (p0 : PySem.Addr) (a0 : List Int) : List (PySem.Addr × J.Cel) := []
def F_law_bag (K : PySem.W.Frag) : J.FS G_law_bag where
  pre := fun g => m_law_bag g.a0 = some g.out
  preG := fun g G => L2.SqL K G g.p0 (g.a0.map V.int)
  args := fun g => A_law_bag g.p0 g.a0
  cells := fun g => D_law_bag g.p0 g.a0
  res := fun g => R_law_bag g.out
  cells' := fun g => C_law_bag g.p0 g.a0 g.out
theorem ok_law_bag (W : Wd K mg) : FnOk P w K mg base CX0 1 W.a__law_bag W.d__law_bag ["script"] (F_law_bag K).sp := by
  refine J.fn_okD (F_law_bag K) W.F__law_bag sc__law_bag (fun g => rfl) (fun g => by intro s hs; simp only [F_law_bag, List.mem_cons, List.not_mem_nil, or_false] at hs; rcases hs with rfl <;> first | rfl | exact J.xsl_plain) (fun cdv A outer s H E hr B g h hG => ?_)
  have hN := (sc__law_bag).nd
  obtain ⟨p0, a0, r0⟩ := g
  change m_law_bag a0 = some r0 at h
  unfold m_law_bag at h
  change J.JS _ B (⟨[(J.Slot.v (.ref p0)), J.Slot.any, J.Slot.any, J.Slot.any], []⟩ : J.Stt) _ (J.fend B (F_law_bag K) ⟨p0, a0, r0⟩)
  refine J.js_new (hN := hN) 1 (J.je_lstv (xs := ([] : List Int)) J.ja_nil) fun p1 => ?_
  refine J.js_set (hN := hN) 2 J.je_int ?_
  obtain ⟨s11, hs11, h⟩ := J.bndE h
  refine J.js_forE (π := Unit) (f := m_law_bag_b0) (Sf := fun (q3 : Unit) (s2 : ((List Int) × Int)) => (⟨[(J.Slot.v (.ref p0)), (J.Slot.v (.ref p1)), (J.Slot.val (s2.2 : Int)), J.Slot.any], [(p1, (J.Cel.lst ((s2.1 : List Int).map J.Slot.val)))]⟩ : J.Stt)) (Sb := fun (q3 : Unit) (s2 : ((List Int) × Int)) (x4 : Int) => (⟨[(J.Slot.v (.ref p0)), (J.Slot.v (.ref p1)), (J.Slot.val (s2.2 : Int)), (J.Slot.val (x4 : Int))], [(p1, (J.Cel.lst ((s2.1 : List Int).map J.Slot.val)))]⟩ : J.Stt)) hs11 (J.ji_pre (ns := a0) (J.je_var 0 rfl) hG) (fun _ _ _ _ g => ⟨(), J.le_fgt (sl := [(J.Slot.v (.ref p0)), (J.Slot.v (.ref p1)), (J.Slot.val ((([] : List Int), 5).2 : Int)), J.Slot.any]) (cs := [(p1, (J.Cel.lst (((([] : List Int), 5).1 : List Int).map J.Slot.val)))]) 1 (.keep (.keep (.keep (.drop .nil)))) rfl _ _ _ _ g⟩) (fun _ _ => trivial) (fun q3 s2 x4 => (J.jg_name 3 (hN := hN))) (fun q3 s2 x4 sY _ h => ?_) (fun q3 => ?_)
  · unfold m_law_bag_b0 at h
    change J.JS _ _ (⟨[(J.Slot.v (.ref p0)), (J.Slot.v (.ref p1)), (J.Slot.val (s2.2 : Int)), (J.Slot.val (x4 : Int))], [(p1, (J.Cel.lst ((s2.1 : List Int).map J.Slot.val)))]⟩ : J.Stt) _ _
    obtain ⟨s5, hs5, h⟩ := J.bndE h
    refine J.js_ifE (π := Unit) (Sq := fun (q6 : Unit) => (⟨[(J.Slot.v (.ref p0)), (J.Slot.v (.ref p1)), (J.Slot.val (s2.2 : Int)), (J.Slot.val (s5 : Int))], [(p1, (J.Cel.lst ((s2.1 : List Int).map J.Slot.val)))]⟩ : J.Stt)) (J.jt_lt (J.je_var 3 rfl) J.je_int) (fun hp => ?_) (fun hp => ?_) (fun q6 => ?_)
    · have h := J.ifT hp hs5
      refine J.js_set (hN := hN) 3 (J.je_sub J.je_int (J.je_var 3 rfl)) ?_
      have h9 := Option.some.inj h
      subst h9
      exact J.js_loopEnd (Sq := fun (q6 : Unit) (s5 : Int) => (⟨[(J.Slot.v (.ref p0)), (J.Slot.v (.ref p1)), (J.Slot.val (s2.2 : Int)), (J.Slot.val (s5 : Int))], [(p1, (J.Cel.lst ((s2.1 : List Int).map J.Slot.val)))]⟩ : J.Stt)) (s' := (3 - x4)) 1 () (.keep (.keep (.keep (.keep .nil)))) rfl rfl
    · have h := J.ifF hp hs5
      have h9 := Option.some.inj h
      subst h9
      exact J.js_loopEnd (Sq := fun (q6 : Unit) (s5 : Int) => (⟨[(J.Slot.v (.ref p0)), (J.Slot.v (.ref p1)), (J.Slot.val (s2.2 : Int)), (J.Slot.val (s5 : Int))], [(p1, (J.Cel.lst ((s2.1 : List Int).map J.Slot.val)))]⟩ : J.Stt)) (s' := x4) 1 () (.keep (.keep (.keep (.keep .nil)))) rfl rfl
    obtain ⟨x7, hx7, h⟩ := J.bndE h
    refine J.js_set (hN := hN) 2 (J.je_let (J.je_mod (J.je_add (J.je_add (J.je_mulR (J.je_var 2 rfl) J.je_int (by decide)) (J.je_var 3 rfl)) J.je_int) (J.je_sub (J.je_powG 61 J.je_int J.je_int (by decide) (show J.powG 2 61 = some 2305843009213693952 by decide +kernel)) J.je_int) (by decide)) hx7) ?_
    obtain ⟨s8, hs8, h⟩ := J.bndE h
    refine J.js_ifE (π := Unit) (Sq := fun (q9 : Unit) => (⟨[(J.Slot.v (.ref p0)), (J.Slot.v (.ref p1)), (J.Slot.val (x7 : Int)), (J.Slot.val (s5 : Int))], [(p1, (J.Cel.lst ((s8 : List Int).map J.Slot.val)))]⟩ : J.Stt)) (J.jt_ge (J.je_var 3 rfl) (J.je_powG 18 J.je_int J.je_int (by decide) (show J.powG 10 18 = some 1000000000000000000 by decide +kernel))) (fun hp => ?_) (fun hp => ?_) (fun q9 => ?_)
    · have h := J.ifT hp hs8
      obtain ⟨x10, hx10, h⟩ := J.bndE h
      refine J.js_expr (J.je_appG (xs := s2.1) (t := ((s5 - 1000000000000000000) : Int)) 0 (J.je_var 1 rfl) rfl (J.je_sub (J.je_var 3 rfl) (J.je_powG 18 J.je_int J.je_int (by decide) (show J.powG 10 18 = some 1000000000000000000 by decide +kernel))) rfl hx10) ?_
      have h9 := Option.some.inj h
      subst h9
      exact J.js_loopEnd (Sq := fun (q9 : Unit) (s8 : (List Int)) => (⟨[(J.Slot.v (.ref p0)), (J.Slot.v (.ref p1)), (J.Slot.val (x7 : Int)), (J.Slot.val (s5 : Int))], [(p1, (J.Cel.lst ((s8 : List Int).map J.Slot.val)))]⟩ : J.Stt)) (s' := x10) 1 () (.keep (.keep (.keep (.keep .nil)))) rfl rfl
    · have h := J.ifF hp hs8
      have h9 := Option.some.inj h
      subst h9
      exact J.js_loopEnd (Sq := fun (q9 : Unit) (s8 : (List Int)) => (⟨[(J.Slot.v (.ref p0)), (J.Slot.v (.ref p1)), (J.Slot.val (x7 : Int)), (J.Slot.val (s5 : Int))], [(p1, (J.Cel.lst ((s8 : List Int).map J.Slot.val)))]⟩ : J.Stt)) (s' := s2.1) 1 () (.keep (.keep (.keep (.keep .nil)))) rfl rfl
    have h9 := Option.some.inj h
    subst h9
    exact J.js_nil fun T tv σ H g => ⟨(), J.le_fgt (sl := [(J.Slot.v (.ref p0)), (J.Slot.v (.ref p1)), (J.Slot.val ((s8, x7).2 : Int)), J.Slot.any]) (cs := [(p1, (J.Cel.lst (((s8, x7).1 : List Int).map J.Slot.val)))]) 1 (.keep (.keep (.keep (.drop .nil)))) rfl _ _ _ _ g⟩
  change J.JS _ _ (⟨[(J.Slot.v (.ref p0)), (J.Slot.v (.ref p1)), (J.Slot.val (s11.2 : Int)), J.Slot.any], [(p1, (J.Cel.lst ((s11.1 : List Int).map J.Slot.val)))]⟩ : J.Stt) _ _
  have h9 := Option.some.inj h
  subst h9
  exact J.js_ret (J.je_fold 0 0 (J.je_lst (J.ja_cons (J.je_var 1 rfl) (J.ja_cons (J.je_var 2 rfl) (J.ja_cons J.je_int J.ja_nil))) (Nat.le_of_ble_eq_true rfl)) rfl rfl) fun v H o => J.Out.take 0 o
structure G_law_draw where
  p0 : PySem.Addr
  p0_0 : PySem.Addr
  a1 : Int
  a0_0 : (List Int)
  a0_1 : Int
  a0_2 : Int
  out : (Int × (Int × (List Int)))
abbrev R_law_draw (r : (Int × (Int × (List Int)))) : J.Slot := (J.Slot.val (r.1 : Int))
abbrev C_law_draw (p0 : PySem.Addr) (p0_0 : PySem.Addr) (a1 : Int) (a0_0 : (List Int)) (a0_1 : Int) (a0_2 : Int) (r : (Int × (Int × (List Int)))) : List (PySem.Addr × J.Cel) := [(p0, (J.Cel.lst [(J.Slot.v (.ref p0_0)), (J.Slot.val (a0_1 : Int)), (J.Slot.val (r.2.1 : Int))])), (p0_0, (J.Cel.lst ((r.2.2 : List Int).map J.Slot.val)))]
abbrev A_law_draw (p0 : PySem.Addr) (p0_0 : PySem.Addr) (a1 : Int) (a0_0 : (List Int)) (a0_1 : Int) (a0_2 : Int) : List J.Slot := [(J.Slot.v (.ref p0)), (J.Slot.val (a1 : Int))]
abbrev D_law_draw (p0 : PySem.Addr) (p0_0 : PySem.Addr) (a1 : Int) (a0_0 : (List Int)) (a0_1 : Int) (a0_2 : Int) : List (PySem.Addr × J.Cel) := [(p0, (J.Cel.lst [(J.Slot.v (.ref p0_0)), (J.Slot.val (a0_1 : Int)), (J.Slot.val (a0_2 : Int))])), (p0_0, (J.Cel.lst ((a0_0 : List Int).map J.Slot.val)))]
def F_law_draw (K : PySem.W.Frag) : J.FS G_law_draw where
  pre := fun g => m_law_draw g.a1 g.a0_0 g.a0_1 g.a0_2 = some g.out
  preG := fun _ _ => True
  args := fun g => A_law_draw g.p0 g.p0_0 g.a1 g.a0_0 g.a0_1 g.a0_2
  cells := fun g => D_law_draw g.p0 g.p0_0 g.a1 g.a0_0 g.a0_1 g.a0_2
  res := fun g => R_law_draw g.out
  cells' := fun g => C_law_draw g.p0 g.p0_0 g.a1 g.a0_0 g.a0_1 g.a0_2 g.out
theorem ok_law_draw (W : Wd K mg) : FnOk P w K mg base CX0 1 W.a__law_draw W.d__law_draw ["bag", "many"] (F_law_draw K).sp := by
  refine J.fn_okD (F_law_draw K) W.F__law_draw sc__law_draw (fun g => rfl) (fun g => by intro s hs; simp only [F_law_draw, List.mem_cons, List.not_mem_nil, or_false] at hs; rcases hs with rfl | rfl <;> first | rfl | exact J.xsl_plain) (fun cdv A outer s H E hr B g h hG => ?_)
  have hN := (sc__law_draw).nd
  obtain ⟨p0, p0_0, a1, a0_0, a0_1, a0_2, r0⟩ := g
  change m_law_draw a1 a0_0 a0_1 a0_2 = some r0 at h
  unfold m_law_draw at h
  change J.JS _ B (⟨[(J.Slot.v (.ref p0)), (J.Slot.val (a1 : Int)), J.Slot.any, J.Slot.any, J.Slot.any], [(p0, (J.Cel.lst [(J.Slot.v (.ref p0_0)), (J.Slot.val (a0_1 : Int)), (J.Slot.val (a0_2 : Int))])), (p0_0, (J.Cel.lst ((a0_0 : List Int).map J.Slot.val)))]⟩ : J.Stt) _ (J.fend B (F_law_draw K) ⟨p0, p0_0, a1, a0_0, a0_1, a0_2, r0⟩)
  refine J.js_asg (J.je_add (J.je_ix (J.je_var 0 rfl) J.je_int (J.lv_cell 0 rfl (J.allp rfl)) rfl) J.je_int) (J.jg_het 0 2 (J.je_var 0 rfl) J.je_int rfl) ?_
  change J.JS _ _ (⟨[(J.Slot.v (.ref p0)), (J.Slot.val (a1 : Int)), J.Slot.any, J.Slot.any, J.Slot.any], [(p0, (J.Cel.lst [(J.Slot.v (.ref p0_0)), (J.Slot.val (a0_1 : Int)), (J.Slot.val ((a0_2 + 1) : Int))])), (p0_0, (J.Cel.lst ((a0_0 : List Int).map J.Slot.val)))]⟩ : J.Stt) _ _
  refine J.js_set (hN := hN) 2 (J.je_ix (J.je_var 0 rfl) J.je_int (J.lv_cell 0 rfl (J.allp rfl)) rfl) ?_
  obtain ⟨s6, hs6, h⟩ := J.bndE h
  refine J.js_whileE (π := Unit) (c := m_law_draw_t0) (f := m_law_draw_w1) (Sf := fun (q2 : Unit) (s1 : (List Int)) => (⟨[(J.Slot.v (.ref p0)), (J.Slot.val (a1 : Int)), (J.Slot.v (.ref p0_0)), J.Slot.any, J.Slot.any], [(p0, (J.Cel.lst [(J.Slot.v (.ref p0_0)), (J.Slot.val (a0_1 : Int)), (J.Slot.val ((a0_2 + 1) : Int))])), (p0_0, (J.Cel.lst ((s1 : List Int).map J.Slot.val)))]⟩ : J.Stt)) hs6 (fun _ _ _ _ g => ⟨(), J.le_fgt (sl := [(J.Slot.v (.ref p0)), (J.Slot.val (a1 : Int)), (J.Slot.v (.ref p0_0)), J.Slot.any, J.Slot.any]) (cs := [(p0, (J.Cel.lst [(J.Slot.v (.ref p0_0)), (J.Slot.val (a0_1 : Int)), (J.Slot.val ((a0_2 + 1) : Int))])), (p0_0, (J.Cel.lst ((a0_0 : List Int).map J.Slot.val)))]) 2 (.keep (.keep (.keep (.drop (.drop .nil))))) rfl _ _ _ _ g⟩) (fun q2 s1 p h => ?_) (fun q2 s1 sY _ h => ?_) (fun q2 => ?_)
  · unfold m_law_draw_t0 at h
    obtain ⟨x4, hx4, h⟩ := J.bndE h
    have h9 := Option.some.inj h
    subst h9
    exact (J.JW.t (J.jw_andM hx4 (J.jt_ne' (t := (s1 : (List Int))) (r := (([] : List Int) : (List Int))) hr (J.je_var 2 rfl) (J.je_lstv (xs := ([] : List Int)) J.ja_nil) (J.dv_cellL 1 rfl) J.dv_ownL) fun _ r h => by
      obtain ⟨x3, hx3, h⟩ := J.bndE h
      have h9 := Option.some.inj h
      subst h9
      exact (J.jw_and1 (J.jt_eq' (t := (x3 : Int)) (r := (0 : Int)) hr (J.je_ixv (xs := s1) (J.je_var 2 rfl) J.je_int (J.lv_cell' 1 rfl) hx3) J.je_int J.dv_val J.dv_val))))
  · unfold m_law_draw_w1 at h
    change J.JS _ _ (⟨[(J.Slot.v (.ref p0)), (J.Slot.val (a1 : Int)), (J.Slot.v (.ref p0_0)), J.Slot.any, J.Slot.any], [(p0, (J.Cel.lst [(J.Slot.v (.ref p0_0)), (J.Slot.val (a0_1 : Int)), (J.Slot.val ((a0_2 + 1) : Int))])), (p0_0, (J.Cel.lst ((s1 : List Int).map J.Slot.val)))]⟩ : J.Stt) _ _
    obtain ⟨x5, hx5, h⟩ := J.bndE h
    refine J.js_expr (J.je_popG (xs := s1) 1 (J.je_var 2 rfl) rfl J.je_int rfl hx5) ?_
    have h9 := Option.some.inj h
    subst h9
    exact J.js_nil fun T tv σ H g => ⟨(), J.le_fgt (sl := [(J.Slot.v (.ref p0)), (J.Slot.val (a1 : Int)), (J.Slot.v (.ref p0_0)), J.Slot.any, J.Slot.any]) (cs := [(p0, (J.Cel.lst [(J.Slot.v (.ref p0_0)), (J.Slot.val (a0_1 : Int)), (J.Slot.val ((a0_2 + 1) : Int))])), (p0_0, (J.Cel.lst (((x5.2) : List Int).map J.Slot.val)))]) 2 (.keep (.keep (.keep (.drop (.drop .nil))))) rfl _ _ _ _ g⟩
  change J.JS _ _ (⟨[(J.Slot.v (.ref p0)), (J.Slot.val (a1 : Int)), (J.Slot.v (.ref p0_0)), J.Slot.any, J.Slot.any], [(p0, (J.Cel.lst [(J.Slot.v (.ref p0_0)), (J.Slot.val (a0_1 : Int)), (J.Slot.val ((a0_2 + 1) : Int))])), (p0_0, (J.Cel.lst ((s6 : List Int).map J.Slot.val)))]⟩ : J.Stt) _ _
  refine J.js_if (J.jt_ne' (t := (s6 : (List Int))) (r := (([] : List Int) : (List Int))) hr (J.je_var 2 rfl) (J.je_lstv (xs := ([] : List Int)) J.ja_nil) (J.dv_cellL 1 rfl) J.dv_ownL) (fun hp => ?_) (fun hp => ?_)
  · replace h := J.ifT hp h
    obtain ⟨x7, hx7, h⟩ := J.bndE h
    obtain ⟨x8, hx8, h⟩ := J.bndE h
    refine J.js_set (hN := hN) 4 (J.je_modG (J.je_ixv (xs := s6) (J.je_var 2 rfl) J.je_int (J.lv_cell' 1 rfl) hx7) (J.je_var 1 rfl) hx8) ?_
    obtain ⟨x9, hx9, h⟩ := J.bndE h
    obtain ⟨x10, hx10, h⟩ := J.bndE h
    obtain ⟨x11, hx11, h⟩ := J.bndE h
    refine J.js_asg (J.je_divG (J.je_ixv (xs := s6) (J.je_var 2 rfl) J.je_int (J.lv_cell' 1 rfl) hx9) (J.je_var 1 rfl) hx10) (J.jg_subG (xs := s6) 1 (J.je_var 2 rfl) J.je_int rfl hx11) ?_
    have h9 := Option.some.inj h
    subst h9
    exact J.js_ret (J.je_var 4 rfl) fun v H o => J.Out.take 2 o
  · replace h := J.ifF hp h
    refine J.js_end ?_
    change J.JS _ _ (⟨[(J.Slot.v (.ref p0)), (J.Slot.val (a1 : Int)), (J.Slot.v (.ref p0_0)), J.Slot.any, J.Slot.any], [(p0, (J.Cel.lst [(J.Slot.v (.ref p0_0)), (J.Slot.val (a0_1 : Int)), (J.Slot.val ((a0_2 + 1) : Int))])), (p0_0, (J.Cel.lst ((s6 : List Int).map J.Slot.val)))]⟩ : J.Stt) _ _
    obtain ⟨x12, hx12, h⟩ := J.bndE h
    obtain ⟨x13, hx13, h⟩ := J.bndE h
    obtain ⟨x14, hx14, h⟩ := J.bndE h
    refine J.js_set (hN := hN) 3 (J.je_let (J.je_mod (J.je_add (J.je_mulG (J.je_add (J.je_ix (J.je_var 0 rfl) J.je_int (J.lv_cell 0 rfl (J.allp rfl)) rfl) J.je_int) (J.je_powG 3 (J.je_add (J.je_ix (J.je_var 0 rfl) J.je_int (J.lv_cell 0 rfl (J.allp rfl)) rfl) J.je_int) J.je_int (by decide) hx12) hx13) (J.je_mulL J.je_int (J.je_ix (J.je_var 0 rfl) J.je_int (J.lv_cell 0 rfl (J.allp rfl)) rfl) (by decide))) (J.je_sub (J.je_powG 61 J.je_int J.je_int (by decide) (show J.powG 2 61 = some 2305843009213693952 by decide +kernel)) J.je_int) (by decide)) hx14) ?_
    obtain ⟨x15, hx15, h⟩ := J.bndE h
    obtain ⟨x16, hx16, h⟩ := J.bndE h
    have h9 := Option.some.inj h
    subst h9
    exact J.js_ret (J.je_modG (J.je_div (J.je_mod (J.je_powG 3 (J.je_var 3 rfl) J.je_int (by decide) hx15) (J.je_add (J.je_powG 18 J.je_int J.je_int (by decide) (show J.powG 10 18 = some 1000000000000000000 by decide +kernel)) J.je_int) (by decide)) J.je_int (by decide)) (J.je_var 1 rfl) hx16) fun v H o => J.Out.take 2 o
structure G_law_most where
  p0 : PySem.Addr
  p0_0 : PySem.Addr
  a0_0 : (List Int)
  a0_1 : Int
  a0_2 : Int
  out : (Int × (Int × (List Int)))
abbrev R_law_most (r : (Int × (Int × (List Int)))) : J.Slot := (J.Slot.val (r.1 : Int))
abbrev C_law_most (p0 : PySem.Addr) (p0_0 : PySem.Addr) (a0_0 : (List Int)) (a0_1 : Int) (a0_2 : Int) (r : (Int × (Int × (List Int)))) : List (PySem.Addr × J.Cel) := [(p0, (J.Cel.lst [(J.Slot.v (.ref p0_0)), (J.Slot.val (a0_1 : Int)), (J.Slot.val (r.2.1 : Int))])), (p0_0, (J.Cel.lst ((r.2.2 : List Int).map J.Slot.val)))]
abbrev A_law_most (p0 : PySem.Addr) (p0_0 : PySem.Addr) (a0_0 : (List Int)) (a0_1 : Int) (a0_2 : Int) : List J.Slot := [(J.Slot.v (.ref p0))]
abbrev D_law_most (p0 : PySem.Addr) (p0_0 : PySem.Addr) (a0_0 : (List Int)) (a0_1 : Int) (a0_2 : Int) : List (PySem.Addr × J.Cel) := [(p0, (J.Cel.lst [(J.Slot.v (.ref p0_0)), (J.Slot.val (a0_1 : Int)), (J.Slot.val (a0_2 : Int))])), (p0_0, (J.Cel.lst ((a0_0 : List Int).map J.Slot.val)))]
def F_law_most (K : PySem.W.Frag) : J.FS G_law_most where
  pre := fun g => m_law_most g.a0_0 g.a0_1 g.a0_2 = some g.out
  preG := fun _ _ => True
  args := fun g => A_law_most g.p0 g.p0_0 g.a0_0 g.a0_1 g.a0_2
  cells := fun g => D_law_most g.p0 g.p0_0 g.a0_0 g.a0_1 g.a0_2
  res := fun g => R_law_most g.out
  cells' := fun g => C_law_most g.p0 g.p0_0 g.a0_0 g.a0_1 g.a0_2 g.out
theorem ok_law_most (W : Wd K mg) : FnOk P w K mg base CX0 2 W.a__law_most W.d__law_most ["bag"] (F_law_most K).sp := by
  refine J.fn_okD (F_law_most K) W.F__law_most sc__law_most (fun g => rfl) (fun g => by intro s hs; simp only [F_law_most, List.mem_cons, List.not_mem_nil, or_false] at hs; rcases hs with rfl <;> first | rfl | exact J.xsl_plain) (fun cdv A outer s H E hr B g h hG => ?_)
  have hN := (sc__law_most).nd
  obtain ⟨p0, p0_0, a0_0, a0_1, a0_2, r0⟩ := g
  change m_law_most a0_0 a0_1 a0_2 = some r0 at h
  unfold m_law_most at h
  change J.JS _ B (⟨[(J.Slot.v (.ref p0))], [(p0, (J.Cel.lst [(J.Slot.v (.ref p0_0)), (J.Slot.val (a0_1 : Int)), (J.Slot.val (a0_2 : Int))])), (p0_0, (J.Cel.lst ((a0_0 : List Int).map J.Slot.val)))]⟩ : J.Stt) _ (J.fend B (F_law_most K) ⟨p0, p0_0, a0_0, a0_1, a0_2, r0⟩)
  obtain ⟨x1, hx1, h⟩ := J.bndE h
  obtain ⟨x2, hx2, h⟩ := J.bndE h
  have h9 := Option.some.inj h
  subst h9
  exact J.js_ret (J.je_ixv (xs := ([8, 14, 14, 30, 30, 30, 60, 200] : List Int)) (J.je_lstv (xs := ([8, 14, 14, 30, 30, 30, 60, 200] : List Int)) (J.ja_cons J.je_int (J.ja_cons J.je_int (J.ja_cons J.je_int (J.ja_cons J.je_int (J.ja_cons J.je_int (J.ja_cons J.je_int (J.ja_cons J.je_int (J.ja_cons J.je_int J.ja_nil))))))))) (J.je_call (f := F_law_draw K) (ok_law_draw W) hr (by decide) W.g__law_draw W.F__law_draw.kp W.b__law_draw (J.ja_cons (J.je_var 0 rfl) (J.ja_cons J.je_int J.ja_nil)) (g := (⟨p0, p0_0, 8, a0_0, a0_1, a0_2, x1⟩ : G_law_draw)) hx1 rfl (.cons 0 rfl (by nofun) (.cons 1 rfl (by nofun) .nil)) (.cons 0 rfl (.cons 1 rfl .nil)) (hG := fun G e => trivial)) J.lv_own' hx2) fun v H o => J.Out.take 2 o
structure G_law_pages where
  p0 : PySem.Addr
  p0_0 : PySem.Addr
  a0_0 : (List Int)
  a0_1 : Int
  a0_2 : Int
  out : ((List Int) × (Int × (List Int)))
abbrev R_law_pages (r : ((List Int) × (Int × (List Int)))) : J.Slot := (J.Slot.own (J.Cel.lst ((r.1 : List Int).map J.Slot.val)))
abbrev C_law_pages (p0 : PySem.Addr) (p0_0 : PySem.Addr) (a0_0 : (List Int)) (a0_1 : Int) (a0_2 : Int) (r : ((List Int) × (Int × (List Int)))) : List (PySem.Addr × J.Cel) := [(p0, (J.Cel.lst [(J.Slot.v (.ref p0_0)), (J.Slot.val (a0_1 : Int)), (J.Slot.val (r.2.1 : Int))])), (p0_0, (J.Cel.lst ((r.2.2 : List Int).map J.Slot.val)))]
abbrev A_law_pages (p0 : PySem.Addr) (p0_0 : PySem.Addr) (a0_0 : (List Int)) (a0_1 : Int) (a0_2 : Int) : List J.Slot := [(J.Slot.v (.ref p0))]
abbrev D_law_pages (p0 : PySem.Addr) (p0_0 : PySem.Addr) (a0_0 : (List Int)) (a0_1 : Int) (a0_2 : Int) : List (PySem.Addr × J.Cel) := [(p0, (J.Cel.lst [(J.Slot.v (.ref p0_0)), (J.Slot.val (a0_1 : Int)), (J.Slot.val (a0_2 : Int))])), (p0_0, (J.Cel.lst ((a0_0 : List Int).map J.Slot.val)))]
def F_law_pages (K : PySem.W.Frag) : J.FS G_law_pages where
  pre := fun g => m_law_pages g.a0_0 g.a0_1 g.a0_2 = some g.out
  preG := fun _ _ => True
  args := fun g => A_law_pages g.p0 g.p0_0 g.a0_0 g.a0_1 g.a0_2
  cells := fun g => D_law_pages g.p0 g.p0_0 g.a0_0 g.a0_1 g.a0_2
  res := fun g => R_law_pages g.out
  cells' := fun g => C_law_pages g.p0 g.p0_0 g.a0_0 g.a0_1 g.a0_2 g.out
theorem ok_law_pages (W : Wd K mg) : FnOk P w K mg base CX0 2 W.a__law_pages W.d__law_pages ["bag"] (F_law_pages K).sp := by
  refine J.fn_okD (F_law_pages K) W.F__law_pages sc__law_pages (fun g => rfl) (fun g => by intro s hs; simp only [F_law_pages, List.mem_cons, List.not_mem_nil, or_false] at hs; rcases hs with rfl <;> first | rfl | exact J.xsl_plain) (fun cdv A outer s H E hr B g h hG => ?_)
  have hN := (sc__law_pages).nd
  obtain ⟨p0, p0_0, a0_0, a0_1, a0_2, r0⟩ := g
  change m_law_pages a0_0 a0_1 a0_2 = some r0 at h
  unfold m_law_pages at h
  change J.JS _ B (⟨[(J.Slot.v (.ref p0)), J.Slot.any, J.Slot.any], [(p0, (J.Cel.lst [(J.Slot.v (.ref p0_0)), (J.Slot.val (a0_1 : Int)), (J.Slot.val (a0_2 : Int))])), (p0_0, (J.Cel.lst ((a0_0 : List Int).map J.Slot.val)))]⟩ : J.Stt) _ (J.fend B (F_law_pages K) ⟨p0, p0_0, a0_0, a0_1, a0_2, r0⟩)
  obtain ⟨x1, hx1, h⟩ := J.bndE h
  obtain ⟨x2, hx2, h⟩ := J.bndE h
  refine J.js_set (hN := hN) 1 (J.je_let (J.je_frL (J.je_lstv (xs := ([0, 1, 2, 9, 10, 100, (1000000000 - 1), 1000000000, (11 + x1.1)] : List Int)) (J.ja_cons J.je_int (J.ja_cons J.je_int (J.ja_cons J.je_int (J.ja_cons J.je_int (J.ja_cons J.je_int (J.ja_cons J.je_int (J.ja_cons (J.je_sub (J.je_powG 9 J.je_int J.je_int (by decide) (show J.powG 10 9 = some 1000000000 by decide +kernel)) J.je_int) (J.ja_cons (J.je_powG 9 J.je_int J.je_int (by decide) (show J.powG 10 9 = some 1000000000 by decide +kernel)) (J.ja_cons (J.je_add J.je_int (J.je_call (f := F_law_draw K) (ok_law_draw W) hr (by decide) W.g__law_draw W.F__law_draw.kp W.b__law_draw (J.ja_cons (J.je_var 0 rfl) (J.ja_cons J.je_int J.ja_nil)) (g := (⟨p0, p0_0, 80, a0_0, a0_1, a0_2, x1⟩ : G_law_draw)) hx1 rfl (.cons 0 rfl (by nofun) (.cons 1 rfl (by nofun) .nil)) (.cons 0 rfl (.cons 1 rfl .nil)) (hG := fun G e => trivial))) J.ja_nil))))))))))) hx2) ?_
  change J.JS _ _ (⟨[(J.Slot.v (.ref p0)), (J.Slot.val (x2 : (List Int))), J.Slot.any], [(p0, (J.Cel.lst [(J.Slot.v (.ref p0_0)), (J.Slot.val (a0_1 : Int)), (J.Slot.val (x1.2.1 : Int))])), (p0_0, (J.Cel.lst ((x1.2.2 : List Int).map J.Slot.val)))]⟩ : J.Stt) _ _
  obtain ⟨x3, hx3, h⟩ := J.bndE h
  refine J.js_set (hN := hN) 2 (J.je_call (f := F_law_draw K) (ok_law_draw W) hr (by decide) W.g__law_draw W.F__law_draw.kp W.b__law_draw (J.ja_cons (J.je_var 0 rfl) (J.ja_cons J.je_int J.ja_nil)) (g := (⟨p0, p0_0, 9, x1.2.2, a0_1, x1.2.1, x3⟩ : G_law_draw)) hx3 rfl (.cons 0 rfl (by nofun) (.cons 1 rfl (by nofun) .nil)) (.cons 0 rfl (.cons 1 rfl .nil)) (hG := fun G e => trivial)) ?_
  change J.JS _ _ (⟨[(J.Slot.v (.ref p0)), (J.Slot.val (x2 : (List Int))), (J.Slot.val (x3.1 : Int))], [(p0, (J.Cel.lst [(J.Slot.v (.ref p0_0)), (J.Slot.val (a0_1 : Int)), (J.Slot.val (x3.2.1 : Int))])), (p0_0, (J.Cel.lst ((x3.2.2 : List Int).map J.Slot.val)))]⟩ : J.Stt) _ _
  obtain ⟨x4, hx4, h⟩ := J.bndE h
  have h9 := Option.some.inj h
  subst h9
  exact J.js_ret (J.je_catG (xs := (J.slc x2 (some x3.1) none)) (ys := (J.slc x2 none (some x3.1))) (J.je_slcv (xs := x2) (J.je_var 1 rfl) (J.jo_some (J.je_var 2 rfl)) J.jo_none J.lv_val) (J.je_slcv (xs := x2) (J.je_var 1 rfl) J.jo_none (J.jo_some (J.je_var 2 rfl)) J.lv_val) J.lh_own J.lh_own hx4) fun v H o => J.Out.take 2 o
structure G_law_line where
  p0 : PySem.Addr
  p0_0 : PySem.Addr
  a1 : Int
  a0_0 : (List Int)
  a0_1 : Int
  a0_2 : Int
  out : ((List Int) × (Int × (List Int)))
abbrev R_law_line (r : ((List Int) × (Int × (List Int)))) : J.Slot := (J.Slot.own (J.Cel.lst ((r.1 : List Int).map J.Slot.val)))
abbrev C_law_line (p0 : PySem.Addr) (p0_0 : PySem.Addr) (a1 : Int) (a0_0 : (List Int)) (a0_1 : Int) (a0_2 : Int) (r : ((List Int) × (Int × (List Int)))) : List (PySem.Addr × J.Cel) := [(p0, (J.Cel.lst [(J.Slot.v (.ref p0_0)), (J.Slot.val (a0_1 : Int)), (J.Slot.val (r.2.1 : Int))])), (p0_0, (J.Cel.lst ((r.2.2 : List Int).map J.Slot.val)))]
abbrev A_law_line (p0 : PySem.Addr) (p0_0 : PySem.Addr) (a1 : Int) (a0_0 : (List Int)) (a0_1 : Int) (a0_2 : Int) : List J.Slot := [(J.Slot.v (.ref p0)), (J.Slot.val (a1 : Int))]
abbrev D_law_line (p0 : PySem.Addr) (p0_0 : PySem.Addr) (a1 : Int) (a0_0 : (List Int)) (a0_1 : Int) (a0_2 : Int) : List (PySem.Addr × J.Cel) := [(p0, (J.Cel.lst [(J.Slot.v (.ref p0_0)), (J.Slot.val (a0_1 : Int)), (J.Slot.val (a0_2 : Int))])), (p0_0, (J.Cel.lst ((a0_0 : List Int).map J.Slot.val)))]
def F_law_line (K : PySem.W.Frag) : J.FS G_law_line where
  pre := fun g => m_law_line g.a1 g.a0_0 g.a0_1 g.a0_2 = some g.out
  preG := fun _ _ => True
  args := fun g => A_law_line g.p0 g.p0_0 g.a1 g.a0_0 g.a0_1 g.a0_2
  cells := fun g => D_law_line g.p0 g.p0_0 g.a1 g.a0_0 g.a0_1 g.a0_2
  res := fun g => R_law_line g.out
  cells' := fun g => C_law_line g.p0 g.p0_0 g.a1 g.a0_0 g.a0_1 g.a0_2 g.out
theorem ok_law_line (W : Wd K mg) : FnOk P w K mg base CX0 3 W.a__law_line W.d__law_line ["bag", "most"] (F_law_line K).sp := by
  refine J.fn_okD (F_law_line K) W.F__law_line sc__law_line (fun g => rfl) (fun g => by intro s hs; simp only [F_law_line, List.mem_cons, List.not_mem_nil, or_false] at hs; rcases hs with rfl | rfl <;> first | rfl | exact J.xsl_plain) (fun cdv A outer s H E hr B g h hG => ?_)
  have hN := (sc__law_line).nd
  obtain ⟨p0, p0_0, a1, a0_0, a0_1, a0_2, r0⟩ := g
  change m_law_line a1 a0_0 a0_1 a0_2 = some r0 at h
  unfold m_law_line at h
  change J.JS _ B (⟨[(J.Slot.v (.ref p0)), (J.Slot.val (a1 : Int)), J.Slot.any, J.Slot.any, J.Slot.any, J.Slot.any, J.Slot.any, J.Slot.any, J.Slot.any, J.Slot.any], [(p0, (J.Cel.lst [(J.Slot.v (.ref p0_0)), (J.Slot.val (a0_1 : Int)), (J.Slot.val (a0_2 : Int))])), (p0_0, (J.Cel.lst ((a0_0 : List Int).map J.Slot.val)))]⟩ : J.Stt) _ (J.fend B (F_law_line K) ⟨p0, p0_0, a1, a0_0, a0_1, a0_2, r0⟩)
  obtain ⟨x1, hx1, h⟩ := J.bndE h
  refine J.js_set (hN := hN) 2 (J.je_frL (J.je_call (f := F_law_pages K) (ok_law_pages W) hr (by decide) W.g__law_pages W.F__law_pages.kp W.b__law_pages (J.ja_cons (J.je_var 0 rfl) J.ja_nil) (g := (⟨p0, p0_0, a0_0, a0_1, a0_2, x1⟩ : G_law_pages)) hx1 rfl (.cons 0 rfl (by nofun) (.cons 1 rfl (by nofun) .nil)) (.cons 0 rfl (.cons 1 rfl .nil)) (hG := fun G e => trivial))) ?_
  change J.JS _ _ (⟨[(J.Slot.v (.ref p0)), (J.Slot.val (a1 : Int)), (J.Slot.val (x1.1 : (List Int))), J.Slot.any, J.Slot.any, J.Slot.any, J.Slot.any, J.Slot.any, J.Slot.any, J.Slot.any], [(p0, (J.Cel.lst [(J.Slot.v (.ref p0_0)), (J.Slot.val (a0_1 : Int)), (J.Slot.val (x1.2.1 : Int))])), (p0_0, (J.Cel.lst ((x1.2.2 : List Int).map J.Slot.val)))]⟩ : J.Stt) _ _
  obtain ⟨x2, hx2, h⟩ := J.bndE h
  refine J.js_set (hN := hN) 3 (J.je_add J.je_int (J.je_call (f := F_law_draw K) (ok_law_draw W) hr (by decide) W.g__law_draw W.F__law_draw.kp W.b__law_draw (J.ja_cons (J.je_var 0 rfl) (J.ja_cons J.je_int J.ja_nil)) (g := (⟨p0, p0_0, 9, x1.2.2, a0_1, x1.2.1, x2⟩ : G_law_draw)) hx2 rfl (.cons 0 rfl (by nofun) (.cons 1 rfl (by nofun) .nil)) (.cons 0 rfl (.cons 1 rfl .nil)) (hG := fun G e => trivial))) ?_
  change J.JS _ _ (⟨[(J.Slot.v (.ref p0)), (J.Slot.val (a1 : Int)), (J.Slot.val (x1.1 : (List Int))), (J.Slot.val ((1 + x2.1) : Int)), J.Slot.any, J.Slot.any, J.Slot.any, J.Slot.any, J.Slot.any, J.Slot.any], [(p0, (J.Cel.lst [(J.Slot.v (.ref p0_0)), (J.Slot.val (a0_1 : Int)), (J.Slot.val (x2.2.1 : Int))])), (p0_0, (J.Cel.lst ((x2.2.2 : List Int).map J.Slot.val)))]⟩ : J.Stt) _ _
  obtain ⟨x3, hx3, h⟩ := J.bndE h
  obtain ⟨s4, hs4, h⟩ := J.bndE h
  refine J.js_ifE (π := Unit) (Sq := fun (q5 : Unit) => (⟨[(J.Slot.v (.ref p0)), (J.Slot.val (a1 : Int)), (J.Slot.val (s4.2.2.1 : (List Int))), (J.Slot.val (s4.2.2.2 : Int)), J.Slot.any, J.Slot.any, J.Slot.any, J.Slot.any, J.Slot.any, J.Slot.any], [(p0, (J.Cel.lst [(J.Slot.v (.ref p0_0)), (J.Slot.val (a0_1 : Int)), (J.Slot.val (s4.1 : Int))])), (p0_0, (J.Cel.lst ((s4.2.1 : List Int).map J.Slot.val)))]⟩ : J.Stt)) (J.jt_eq' (t := (x3.1 : Int)) (r := (3 : Int)) hr (J.je_call (f := F_law_draw K) (ok_law_draw W) hr (by decide) W.g__law_draw W.F__law_draw.kp W.b__law_draw (J.ja_cons (J.je_var 0 rfl) (J.ja_cons J.je_int J.ja_nil)) (g := (⟨p0, p0_0, 4, x2.2.2, a0_1, x2.2.1, x3⟩ : G_law_draw)) hx3 rfl (.cons 0 rfl (by nofun) (.cons 1 rfl (by nofun) .nil)) (.cons 0 rfl (.cons 1 rfl .nil)) (hG := fun G e => trivial)) J.je_int J.dv_val J.dv_val) (fun hp => ?_) (fun hp => ?_) (fun q5 => ?_)
  · have h := J.ifT hp hs4
    change J.JS _ _ (⟨[(J.Slot.v (.ref p0)), (J.Slot.val (a1 : Int)), (J.Slot.val (x1.1 : (List Int))), (J.Slot.val ((1 + x2.1) : Int)), J.Slot.any, J.Slot.any, J.Slot.any, J.Slot.any, J.Slot.any, J.Slot.any], [(p0, (J.Cel.lst [(J.Slot.v (.ref p0_0)), (J.Slot.val (a0_1 : Int)), (J.Slot.val (x3.2.1 : Int))])), (p0_0, (J.Cel.lst ((x3.2.2 : List Int).map J.Slot.val)))]⟩ : J.Stt) _ _
    obtain ⟨x6, hx6, h⟩ := J.bndE h
    refine J.js_set (hN := hN) 7 (J.je_call (f := F_law_draw K) (ok_law_draw W) hr (by decide) W.g__law_draw W.F__law_draw.kp W.b__law_draw (J.ja_cons (J.je_var 0 rfl) (J.ja_cons (J.je_powG 8 J.je_int J.je_int (by decide) (show J.powG 10 8 = some 100000000 by decide +kernel)) J.ja_nil)) (g := (⟨p0, p0_0, 100000000, x3.2.2, a0_1, x3.2.1, x6⟩ : G_law_draw)) hx6 rfl (.cons 0 rfl (by nofun) (.cons 1 rfl (by nofun) .nil)) (.cons 0 rfl (.cons 1 rfl .nil)) (hG := fun G e => trivial)) ?_
    change J.JS _ _ (⟨[(J.Slot.v (.ref p0)), (J.Slot.val (a1 : Int)), (J.Slot.val (x1.1 : (List Int))), (J.Slot.val ((1 + x2.1) : Int)), J.Slot.any, J.Slot.any, J.Slot.any, (J.Slot.val (x6.1 : Int)), J.Slot.any, J.Slot.any], [(p0, (J.Cel.lst [(J.Slot.v (.ref p0_0)), (J.Slot.val (a0_1 : Int)), (J.Slot.val (x6.2.1 : Int))])), (p0_0, (J.Cel.lst ((x6.2.2 : List Int).map J.Slot.val)))]⟩ : J.Stt) _ _
    obtain ⟨x7, hx7, h⟩ := J.bndE h
    refine J.js_set (hN := hN) 8 (J.je_add J.je_int (J.je_call (f := F_law_draw K) (ok_law_draw W) hr (by decide) W.g__law_draw W.F__law_draw.kp W.b__law_draw (J.ja_cons (J.je_var 0 rfl) (J.ja_cons (J.je_powG 6 J.je_int J.je_int (by decide) (show J.powG 10 6 = some 1000000 by decide +kernel)) J.ja_nil)) (g := (⟨p0, p0_0, 1000000, x6.2.2, a0_1, x6.2.1, x7⟩ : G_law_draw)) hx7 rfl (.cons 0 rfl (by nofun) (.cons 1 rfl (by nofun) .nil)) (.cons 0 rfl (.cons 1 rfl .nil)) (hG := fun G e => trivial))) ?_
    change J.JS _ _ (⟨[(J.Slot.v (.ref p0)), (J.Slot.val (a1 : Int)), (J.Slot.val (x1.1 : (List Int))), (J.Slot.val ((1 + x2.1) : Int)), J.Slot.any, J.Slot.any, J.Slot.any, (J.Slot.val (x6.1 : Int)), (J.Slot.val ((1 + x7.1) : Int)), J.Slot.any], [(p0, (J.Cel.lst [(J.Slot.v (.ref p0_0)), (J.Slot.val (a0_1 : Int)), (J.Slot.val (x7.2.1 : Int))])), (p0_0, (J.Cel.lst ((x7.2.2 : List Int).map J.Slot.val)))]⟩ : J.Stt) _ _
    obtain ⟨x8, hx8, h⟩ := J.bndE h
    obtain ⟨x9, hx9, h⟩ := J.bndE h
    obtain ⟨x14, hx14, h⟩ := J.bndE h
    refine J.js_setLc 2 (z := (J.Slot.val (x14.1 : (List Int)))) (f := m_law_line_c0 x6 x7) (el := J.Slot.val) (Sf := fun (s10 : Unit) => (⟨[(J.Slot.v (.ref p0)), (J.Slot.val (a1 : Int)), (J.Slot.val (x1.1 : (List Int))), (J.Slot.val ((1 + x2.1) : Int)), J.Slot.any, J.Slot.any, J.Slot.any, (J.Slot.val (x6.1 : Int)), (J.Slot.val ((1 + x7.1) : Int)), J.Slot.any], [(p0, (J.Cel.lst [(J.Slot.v (.ref p0_0)), (J.Slot.val (a0_1 : Int)), (J.Slot.val (x8.2.1 : Int))])), (p0_0, (J.Cel.lst ((x8.2.2 : List Int).map J.Slot.val)))]⟩ : J.Stt)) (Sb := fun (s10 : Unit) (x12 : Int) => (⟨[(J.Slot.v (.ref p0)), (J.Slot.val (a1 : Int)), (J.Slot.val (x1.1 : (List Int))), (J.Slot.val ((1 + x2.1) : Int)), J.Slot.any, J.Slot.any, (J.Slot.val (x12 : Int)), (J.Slot.val (x6.1 : Int)), (J.Slot.val ((1 + x7.1) : Int)), J.Slot.any], [(p0, (J.Cel.lst [(J.Slot.v (.ref p0_0)), (J.Slot.val (a0_1 : Int)), (J.Slot.val (x8.2.1 : Int))])), (p0_0, (J.Cel.lst ((x8.2.2 : List Int).map J.Slot.val)))]⟩ : J.Stt)) (s0 := ()) (own := [(("k" : PySem.Str), 6)]) (ws := [6]) (J.lcM_of hx14).2 (J.lcM_of hx14).1 hN (L2.blkOk_by (N := ["bag", "most", "some", "many", "kind", "found", "k", "first", "step", "at"]) (sc := defScope s__law_line) (by decide +kernel)) (J.ji_rngG W.l_range (J.je_add J.je_int (J.je_call (f := F_law_draw K) (ok_law_draw W) hr (by decide) W.g__law_draw W.F__law_draw.kp W.b__law_draw (J.ja_cons (J.je_var 0 rfl) (J.ja_cons J.je_int J.ja_nil)) (g := (⟨p0, p0_0, 71, x7.2.2, a0_1, x7.2.1, x8⟩ : G_law_draw)) hx8 rfl (.cons 0 rfl (by nofun) (.cons 1 rfl (by nofun) .nil)) (.cons 0 rfl (.cons 1 rfl .nil)) (hG := fun G e => trivial))) hx9) (J.le_fgt 2 (.keep (.keep (.keep (.keep (.drop (.drop (.drop (.keep (.keep (.drop .nil)))))))))) rfl) (fun _ => trivial) (fun _ => J.any_at rfl) (by decide) (fun s10 x12 => fun s1 H1 C1 cl1 fp1 =>  J.inJG hN fun hN => (J.jg_name 6 (hN := hN))) (fun s10 x12 o sZ _ h => by
      unfold m_law_line_c0 at h
      obtain ⟨x13, hx13, h⟩ := J.bndE h
      obtain ⟨h8, h9⟩ := Prod.mk.inj (Option.some.inj h)
      subst h8
      subst h9
      exact ⟨true, _, (fun s1 H1 C1 cl1 fp1 =>  J.jts_nil), fun _ => ⟨_, _, rfl, (fun s1 H1 C1 cl1 fp1 =>  J.inJE hr hN fun hr hN => (J.je_add (J.je_var 7 rfl) (J.je_mulG (J.je_var 8 rfl) (J.je_var 6 rfl) hx13))), (J.le_fgt 2 (.keep (.keep (.keep (.keep (.drop (.drop (.drop (.keep (.keep (.drop .nil)))))))))) rfl)⟩, nofun⟩) (fun h => h.frz (.own (J.fz_val _)) fun G d => .val d) ?_
    change J.JS _ _ (⟨[(J.Slot.v (.ref p0)), (J.Slot.val (a1 : Int)), (J.Slot.val (x14.1 : (List Int))), (J.Slot.val ((1 + x2.1) : Int)), J.Slot.any, J.Slot.any, J.Slot.any, (J.Slot.val (x6.1 : Int)), (J.Slot.val ((1 + x7.1) : Int)), J.Slot.any], [(p0, (J.Cel.lst [(J.Slot.v (.ref p0_0)), (J.Slot.val (a0_1 : Int)), (J.Slot.val (x8.2.1 : Int))])), (p0_0, (J.Cel.lst ((x8.2.2 : List Int).map J.Slot.val)))]⟩ : J.Stt) _ _
    refine J.js_set (hN := hN) 3 (J.je_len (n := "len") (xs := x14.1) W.l_len (J.je_var 2 rfl) J.lv_val) ?_
    have h9 := Option.some.inj h
    subst h9
    exact J.js_loopEnd (Sq := fun (q5 : Unit) (s4 : (Int × ((List Int) × ((List Int) × Int)))) => (⟨[(J.Slot.v (.ref p0)), (J.Slot.val (a1 : Int)), (J.Slot.val (s4.2.2.1 : (List Int))), (J.Slot.val (s4.2.2.2 : Int)), J.Slot.any, J.Slot.any, J.Slot.any, J.Slot.any, J.Slot.any, J.Slot.any], [(p0, (J.Cel.lst [(J.Slot.v (.ref p0_0)), (J.Slot.val (a0_1 : Int)), (J.Slot.val (s4.1 : Int))])), (p0_0, (J.Cel.lst ((s4.2.1 : List Int).map J.Slot.val)))]⟩ : J.Stt)) (s' := (x8.2.1, (x8.2.2, (x14.1, ((x14.1).length : Int))))) 2 () (.keep (.keep (.keep (.keep (.drop (.drop (.drop (.drop (.drop (.drop .nil)))))))))) rfl rfl
  · have h := J.ifF hp hs4
    change J.JS _ _ (⟨[(J.Slot.v (.ref p0)), (J.Slot.val (a1 : Int)), (J.Slot.val (x1.1 : (List Int))), (J.Slot.val ((1 + x2.1) : Int)), J.Slot.any, J.Slot.any, J.Slot.any, J.Slot.any, J.Slot.any, J.Slot.any], [(p0, (J.Cel.lst [(J.Slot.v (.ref p0_0)), (J.Slot.val (a0_1 : Int)), (J.Slot.val (x3.2.1 : Int))])), (p0_0, (J.Cel.lst ((x3.2.2 : List Int).map J.Slot.val)))]⟩ : J.Stt) _ _
    have h9 := Option.some.inj h
    subst h9
    exact J.js_loopEnd (Sq := fun (q5 : Unit) (s4 : (Int × ((List Int) × ((List Int) × Int)))) => (⟨[(J.Slot.v (.ref p0)), (J.Slot.val (a1 : Int)), (J.Slot.val (s4.2.2.1 : (List Int))), (J.Slot.val (s4.2.2.2 : Int)), J.Slot.any, J.Slot.any, J.Slot.any, J.Slot.any, J.Slot.any, J.Slot.any], [(p0, (J.Cel.lst [(J.Slot.v (.ref p0_0)), (J.Slot.val (a0_1 : Int)), (J.Slot.val (s4.1 : Int))])), (p0_0, (J.Cel.lst ((s4.2.1 : List Int).map J.Slot.val)))]⟩ : J.Stt)) (s' := (x3.2.1, (x3.2.2, (x1.1, (1 + x2.1))))) 2 () (.keep (.keep (.keep (.keep (.drop (.drop (.drop (.drop (.drop (.drop .nil)))))))))) rfl rfl
  obtain ⟨x15, hx15, h⟩ := J.bndE h
  refine J.js_set (hN := hN) 4 (J.je_call (f := F_law_draw K) (ok_law_draw W) hr (by decide) W.g__law_draw W.F__law_draw.kp W.b__law_draw (J.ja_cons (J.je_var 0 rfl) (J.ja_cons J.je_int J.ja_nil)) (g := (⟨p0, p0_0, 4, s4.2.1, a0_1, s4.1, x15⟩ : G_law_draw)) hx15 rfl (.cons 0 rfl (by nofun) (.cons 1 rfl (by nofun) .nil)) (.cons 0 rfl (.cons 1 rfl .nil)) (hG := fun G e => trivial)) ?_
  change J.JS _ _ (⟨[(J.Slot.v (.ref p0)), (J.Slot.val (a1 : Int)), (J.Slot.val (s4.2.2.1 : (List Int))), (J.Slot.val (s4.2.2.2 : Int)), (J.Slot.val (x15.1 : Int)), J.Slot.any, J.Slot.any, J.Slot.any, J.Slot.any, J.Slot.any], [(p0, (J.Cel.lst [(J.Slot.v (.ref p0_0)), (J.Slot.val (a0_1 : Int)), (J.Slot.val (x15.2.1 : Int))])), (p0_0, (J.Cel.lst ((x15.2.2 : List Int).map J.Slot.val)))]⟩ : J.Stt) _ _
  refine J.js_new (hN := hN) 5 (J.je_lstv (xs := ([] : List Int)) J.ja_nil) fun p16 => ?_
  obtain ⟨x17, hx17, h⟩ := J.bndE h
  obtain ⟨x18, hx18, h⟩ := J.bndE h
  obtain ⟨s33, hs33, h⟩ := J.bndE h
  refine J.js_forE (π := Unit) (f := m_law_line_b1 a0_1 s4 x15) (Sf := fun (q20 : Unit) (s19 : (Int × ((List Int) × (List Int)))) => (⟨[(J.Slot.v (.ref p0)), (J.Slot.val (a1 : Int)), (J.Slot.val (s4.2.2.1 : (List Int))), (J.Slot.val (s4.2.2.2 : Int)), (J.Slot.val (x15.1 : Int)), (J.Slot.v (.ref p16)), J.Slot.any, J.Slot.any, J.Slot.any, J.Slot.any], [(p0, (J.Cel.lst [(J.Slot.v (.ref p0_0)), (J.Slot.val (a0_1 : Int)), (J.Slot.val (s19.1 : Int))])), (p0_0, (J.Cel.lst ((s19.2.1 : List Int).map J.Slot.val))), (p16, (J.Cel.lst ((s19.2.2 : List Int).map J.Slot.val)))]⟩ : J.Stt)) (Sb := fun (q20 : Unit) (s19 : (Int × ((List Int) × (List Int)))) (x21 : Int) => (⟨[(J.Slot.v (.ref p0)), (J.Slot.val (a1 : Int)), (J.Slot.val (s4.2.2.1 : (List Int))), (J.Slot.val (s4.2.2.2 : Int)), (J.Slot.val (x15.1 : Int)), (J.Slot.v (.ref p16)), (J.Slot.val (x21 : Int)), J.Slot.any, J.Slot.any, J.Slot.any], [(p0, (J.Cel.lst [(J.Slot.v (.ref p0_0)), (J.Slot.val (a0_1 : Int)), (J.Slot.val (s19.1 : Int))])), (p0_0, (J.Cel.lst ((s19.2.1 : List Int).map J.Slot.val))), (p16, (J.Cel.lst ((s19.2.2 : List Int).map J.Slot.val)))]⟩ : J.Stt)) hs33 (J.ji_rngG W.l_range (J.je_call (f := F_law_draw K) (ok_law_draw W) hr (by decide) W.g__law_draw W.F__law_draw.kp W.b__law_draw (J.ja_cons (J.je_var 0 rfl) (J.ja_cons (J.je_add (J.je_var 1 rfl) J.je_int) J.ja_nil)) (g := (⟨p0, p0_0, (a1 + 1), x15.2.2, a0_1, x15.2.1, x17⟩ : G_law_draw)) hx17 rfl (.cons 0 rfl (by nofun) (.cons 1 rfl (by nofun) .nil)) (.cons 0 rfl (.cons 1 rfl .nil)) (hG := fun G e => trivial)) hx18) (fun _ _ _ _ g => ⟨(), J.le_fgt (sl := [(J.Slot.v (.ref p0)), (J.Slot.val (a1 : Int)), (J.Slot.val (s4.2.2.1 : (List Int))), (J.Slot.val (s4.2.2.2 : Int)), (J.Slot.val (x15.1 : Int)), (J.Slot.v (.ref p16)), J.Slot.any, J.Slot.any, J.Slot.any, J.Slot.any]) (cs := [(p0, (J.Cel.lst [(J.Slot.v (.ref p0_0)), (J.Slot.val (a0_1 : Int)), (J.Slot.val ((x17.2.1, (x17.2.2, ([] : List Int))).1 : Int))])), (p0_0, (J.Cel.lst (((x17.2.1, (x17.2.2, ([] : List Int))).2.1 : List Int).map J.Slot.val))), (p16, (J.Cel.lst (((x17.2.1, (x17.2.2, ([] : List Int))).2.2 : List Int).map J.Slot.val)))]) 3 (.keep (.keep (.keep (.keep (.keep (.keep (.drop (.drop (.drop (.drop .nil)))))))))) rfl _ _ _ _ g⟩) (fun _ _ => trivial) (fun q20 s19 x21 => (J.jg_name 6 (hN := hN))) (fun q20 s19 x21 sY _ h => ?_) (fun q20 => ?_)
  · unfold m_law_line_b1 at h
    change J.JS _ _ (⟨[(J.Slot.v (.ref p0)), (J.Slot.val (a1 : Int)), (J.Slot.val (s4.2.2.1 : (List Int))), (J.Slot.val (s4.2.2.2 : Int)), (J.Slot.val (x15.1 : Int)), (J.Slot.v (.ref p16)), (J.Slot.val (x21 : Int)), J.Slot.any, J.Slot.any, J.Slot.any], [(p0, (J.Cel.lst [(J.Slot.v (.ref p0_0)), (J.Slot.val (a0_1 : Int)), (J.Slot.val (s19.1 : Int))])), (p0_0, (J.Cel.lst ((s19.2.1 : List Int).map J.Slot.val))), (p16, (J.Cel.lst ((s19.2.2 : List Int).map J.Slot.val)))]⟩ : J.Stt) _ _
    obtain ⟨x22, hx22, h⟩ := J.bndE h
    obtain ⟨x23, hx23, h⟩ := J.bndE h
    obtain ⟨x24, hx24, h⟩ := J.bndE h
    obtain ⟨x25, hx25, h⟩ := J.bndE h
    obtain ⟨x26, hx26, h⟩ := J.bndE h
    refine J.js_set (hN := hN) 9 (J.je_ixv (xs := ([x22.1, x23.1, x24, x25] : List Int)) (J.je_lstv (xs := ([x22.1, x23.1, x24, x25] : List Int)) (J.ja_cons (J.je_call (f := F_law_draw K) (ok_law_draw W) hr (by decide) W.g__law_draw W.F__law_draw.kp W.b__law_draw (J.ja_cons (J.je_var 0 rfl) (J.ja_cons (J.je_var 3 rfl) J.ja_nil)) (g := (⟨p0, p0_0, s4.2.2.2, s19.2.1, a0_1, s19.1, x22⟩ : G_law_draw)) hx22 rfl (.cons 0 rfl (by nofun) (.cons 1 rfl (by nofun) .nil)) (.cons 0 rfl (.cons 1 rfl .nil)) (hG := fun G e => trivial)) (J.ja_cons (J.je_call (f := F_law_draw K) (ok_law_draw W) hr (by decide) W.g__law_draw W.F__law_draw.kp W.b__law_draw (J.ja_cons (J.je_var 0 rfl) (J.ja_cons (J.je_var 3 rfl) J.ja_nil)) (g := (⟨p0, p0_0, s4.2.2.2, x22.2.2, a0_1, x22.2.1, x23⟩ : G_law_draw)) hx23 rfl (.cons 0 rfl (by nofun) (.cons 1 rfl (by nofun) .nil)) (.cons 0 rfl (.cons 1 rfl .nil)) (hG := fun G e => trivial)) (J.ja_cons (J.je_modG (J.je_var 6 rfl) (J.je_var 3 rfl) hx24) (J.ja_cons (J.je_modG (J.je_div (J.je_var 6 rfl) J.je_int (by decide)) (J.je_var 3 rfl) hx25) J.ja_nil))))) (J.je_var 4 rfl) J.lv_own' hx26) ?_
    change J.JS _ _ (⟨[(J.Slot.v (.ref p0)), (J.Slot.val (a1 : Int)), (J.Slot.val (s4.2.2.1 : (List Int))), (J.Slot.val (s4.2.2.2 : Int)), (J.Slot.val (x15.1 : Int)), (J.Slot.v (.ref p16)), (J.Slot.val (x21 : Int)), J.Slot.any, J.Slot.any, (J.Slot.val (x26 : Int))], [(p0, (J.Cel.lst [(J.Slot.v (.ref p0_0)), (J.Slot.val (a0_1 : Int)), (J.Slot.val (x23.2.1 : Int))])), (p0_0, (J.Cel.lst ((x23.2.2 : List Int).map J.Slot.val))), (p16, (J.Cel.lst ((s19.2.2 : List Int).map J.Slot.val)))]⟩ : J.Stt) _ _
    obtain ⟨x27, hx27, h⟩ := J.bndE h
    obtain ⟨s28, hs28, h⟩ := J.bndE h
    refine J.js_ifE (π := Unit) (Sq := fun (q29 : Unit) => (⟨[(J.Slot.v (.ref p0)), (J.Slot.val (a1 : Int)), (J.Slot.val (s4.2.2.1 : (List Int))), (J.Slot.val (s4.2.2.2 : Int)), (J.Slot.val (x15.1 : Int)), (J.Slot.v (.ref p16)), (J.Slot.val (x21 : Int)), J.Slot.any, J.Slot.any, (J.Slot.val (s28.2.2 : Int))], [(p0, (J.Cel.lst [(J.Slot.v (.ref p0_0)), (J.Slot.val (a0_1 : Int)), (J.Slot.val (s28.1 : Int))])), (p0_0, (J.Cel.lst ((s28.2.1 : List Int).map J.Slot.val))), (p16, (J.Cel.lst ((s19.2.2 : List Int).map J.Slot.val)))]⟩ : J.Stt)) (J.jt_eq' (t := (x27.1 : Int)) (r := (0 : Int)) hr (J.je_call (f := F_law_draw K) (ok_law_draw W) hr (by decide) W.g__law_draw W.F__law_draw.kp W.b__law_draw (J.ja_cons (J.je_var 0 rfl) (J.ja_cons J.je_int J.ja_nil)) (g := (⟨p0, p0_0, 8, x23.2.2, a0_1, x23.2.1, x27⟩ : G_law_draw)) hx27 rfl (.cons 0 rfl (by nofun) (.cons 1 rfl (by nofun) .nil)) (.cons 0 rfl (.cons 1 rfl .nil)) (hG := fun G e => trivial)) J.je_int J.dv_val J.dv_val) (fun hp => ?_) (fun hp => ?_) (fun q29 => ?_)
    · have h := J.ifT hp hs28
      change J.JS _ _ (⟨[(J.Slot.v (.ref p0)), (J.Slot.val (a1 : Int)), (J.Slot.val (s4.2.2.1 : (List Int))), (J.Slot.val (s4.2.2.2 : Int)), (J.Slot.val (x15.1 : Int)), (J.Slot.v (.ref p16)), (J.Slot.val (x21 : Int)), J.Slot.any, J.Slot.any, (J.Slot.val (x26 : Int))], [(p0, (J.Cel.lst [(J.Slot.v (.ref p0_0)), (J.Slot.val (a0_1 : Int)), (J.Slot.val (x27.2.1 : Int))])), (p0_0, (J.Cel.lst ((x27.2.2 : List Int).map J.Slot.val))), (p16, (J.Cel.lst ((s19.2.2 : List Int).map J.Slot.val)))]⟩ : J.Stt) _ _
      obtain ⟨x30, hx30, h⟩ := J.bndE h
      refine J.js_set (hN := hN) 9 (J.je_call (f := F_law_draw K) (ok_law_draw W) hr (by decide) W.g__law_draw W.F__law_draw.kp W.b__law_draw (J.ja_cons (J.je_var 0 rfl) (J.ja_cons (J.je_len (n := "len") (xs := s4.2.2.1) W.l_len (J.je_var 2 rfl) J.lv_val) J.ja_nil)) (g := (⟨p0, p0_0, ((s4.2.2.1).length : Int), x27.2.2, a0_1, x27.2.1, x30⟩ : G_law_draw)) hx30 rfl (.cons 0 rfl (by nofun) (.cons 1 rfl (by nofun) .nil)) (.cons 0 rfl (.cons 1 rfl .nil)) (hG := fun G e => trivial)) ?_
      change J.JS _ _ (⟨[(J.Slot.v (.ref p0)), (J.Slot.val (a1 : Int)), (J.Slot.val (s4.2.2.1 : (List Int))), (J.Slot.val (s4.2.2.2 : Int)), (J.Slot.val (x15.1 : Int)), (J.Slot.v (.ref p16)), (J.Slot.val (x21 : Int)), J.Slot.any, J.Slot.any, (J.Slot.val (x30.1 : Int))], [(p0, (J.Cel.lst [(J.Slot.v (.ref p0_0)), (J.Slot.val (a0_1 : Int)), (J.Slot.val (x30.2.1 : Int))])), (p0_0, (J.Cel.lst ((x30.2.2 : List Int).map J.Slot.val))), (p16, (J.Cel.lst ((s19.2.2 : List Int).map J.Slot.val)))]⟩ : J.Stt) _ _
      have h9 := Option.some.inj h
      subst h9
      exact J.js_loopEnd (Sq := fun (q29 : Unit) (s28 : (Int × ((List Int) × Int))) => (⟨[(J.Slot.v (.ref p0)), (J.Slot.val (a1 : Int)), (J.Slot.val (s4.2.2.1 : (List Int))), (J.Slot.val (s4.2.2.2 : Int)), (J.Slot.val (x15.1 : Int)), (J.Slot.v (.ref p16)), (J.Slot.val (x21 : Int)), J.Slot.any, J.Slot.any, (J.Slot.val (s28.2.2 : Int))], [(p0, (J.Cel.lst [(J.Slot.v (.ref p0_0)), (J.Slot.val (a0_1 : Int)), (J.Slot.val (s28.1 : Int))])), (p0_0, (J.Cel.lst ((s28.2.1 : List Int).map J.Slot.val))), (p16, (J.Cel.lst ((s19.2.2 : List Int).map J.Slot.val)))]⟩ : J.Stt)) (s' := (x30.2.1, (x30.2.2, x30.1))) 3 () (.keep (.keep (.keep (.keep (.keep (.keep (.keep (.drop (.drop (.keep .nil)))))))))) rfl rfl
    · have h := J.ifF hp hs28
      change J.JS _ _ (⟨[(J.Slot.v (.ref p0)), (J.Slot.val (a1 : Int)), (J.Slot.val (s4.2.2.1 : (List Int))), (J.Slot.val (s4.2.2.2 : Int)), (J.Slot.val (x15.1 : Int)), (J.Slot.v (.ref p16)), (J.Slot.val (x21 : Int)), J.Slot.any, J.Slot.any, (J.Slot.val (x26 : Int))], [(p0, (J.Cel.lst [(J.Slot.v (.ref p0_0)), (J.Slot.val (a0_1 : Int)), (J.Slot.val (x27.2.1 : Int))])), (p0_0, (J.Cel.lst ((x27.2.2 : List Int).map J.Slot.val))), (p16, (J.Cel.lst ((s19.2.2 : List Int).map J.Slot.val)))]⟩ : J.Stt) _ _
      have h9 := Option.some.inj h
      subst h9
      exact J.js_loopEnd (Sq := fun (q29 : Unit) (s28 : (Int × ((List Int) × Int))) => (⟨[(J.Slot.v (.ref p0)), (J.Slot.val (a1 : Int)), (J.Slot.val (s4.2.2.1 : (List Int))), (J.Slot.val (s4.2.2.2 : Int)), (J.Slot.val (x15.1 : Int)), (J.Slot.v (.ref p16)), (J.Slot.val (x21 : Int)), J.Slot.any, J.Slot.any, (J.Slot.val (s28.2.2 : Int))], [(p0, (J.Cel.lst [(J.Slot.v (.ref p0_0)), (J.Slot.val (a0_1 : Int)), (J.Slot.val (s28.1 : Int))])), (p0_0, (J.Cel.lst ((s28.2.1 : List Int).map J.Slot.val))), (p16, (J.Cel.lst ((s19.2.2 : List Int).map J.Slot.val)))]⟩ : J.Stt)) (s' := (x27.2.1, (x27.2.2, x26))) 3 () (.keep (.keep (.keep (.keep (.keep (.keep (.keep (.drop (.drop (.keep .nil)))))))))) rfl rfl
    obtain ⟨x31, hx31, h⟩ := J.bndE h
    obtain ⟨x32, hx32, h⟩ := J.bndE h
    refine J.js_expr (J.je_appG (xs := s19.2.2) (t := (x31 : Int)) 2 (J.je_var 5 rfl) rfl (J.je_ixv (xs := s4.2.2.1) (J.je_var 2 rfl) (J.je_var 9 rfl) J.lv_val hx31) rfl hx32) ?_
    have h9 := Option.some.inj h
    subst h9
    exact J.js_nil fun T tv σ H g => ⟨(), J.le_fgt (sl := [(J.Slot.v (.ref p0)), (J.Slot.val (a1 : Int)), (J.Slot.val (s4.2.2.1 : (List Int))), (J.Slot.val (s4.2.2.2 : Int)), (J.Slot.val (x15.1 : Int)), (J.Slot.v (.ref p16)), J.Slot.any, J.Slot.any, J.Slot.any, J.Slot.any]) (cs := [(p0, (J.Cel.lst [(J.Slot.v (.ref p0_0)), (J.Slot.val (a0_1 : Int)), (J.Slot.val ((s28.1, (s28.2.1, x32)).1 : Int))])), (p0_0, (J.Cel.lst (((s28.1, (s28.2.1, x32)).2.1 : List Int).map J.Slot.val))), (p16, (J.Cel.lst (((s28.1, (s28.2.1, x32)).2.2 : List Int).map J.Slot.val)))]) 3 (.keep (.keep (.keep (.keep (.keep (.keep (.drop (.drop (.drop (.drop .nil)))))))))) rfl _ _ _ _ g⟩
  change J.JS _ _ (⟨[(J.Slot.v (.ref p0)), (J.Slot.val (a1 : Int)), (J.Slot.val (s4.2.2.1 : (List Int))), (J.Slot.val (s4.2.2.2 : Int)), (J.Slot.val (x15.1 : Int)), (J.Slot.v (.ref p16)), J.Slot.any, J.Slot.any, J.Slot.any, J.Slot.any], [(p0, (J.Cel.lst [(J.Slot.v (.ref p0_0)), (J.Slot.val (a0_1 : Int)), (J.Slot.val (s33.1 : Int))])), (p0_0, (J.Cel.lst ((s33.2.1 : List Int).map J.Slot.val))), (p16, (J.Cel.lst ((s33.2.2 : List Int).map J.Slot.val)))]⟩ : J.Stt) _ _
  have h9 := Option.some.inj h
  subst h9
  exact J.js_ret (J.je_own 2 (J.je_var 5 rfl) rfl) fun v H o => J.Out.take 2 o
structure G_law_wide where
  p0 : PySem.Addr
  p0_0 : PySem.Addr
  a0_0 : (List Int)
  a0_1 : Int
  a0_2 : Int
  out : (Int × (Int × (List Int)))
abbrev R_law_wide (r : (Int × (Int × (List Int)))) : J.Slot := (J.Slot.val (r.1 : Int))
abbrev C_law_wide (p0 : PySem.Addr) (p0_0 : PySem.Addr) (a0_0 : (List Int)) (a0_1 : Int) (a0_2 : Int) (r : (Int × (Int × (List Int)))) : List (PySem.Addr × J.Cel) := [(p0, (J.Cel.lst [(J.Slot.v (.ref p0_0)), (J.Slot.val (a0_1 : Int)), (J.Slot.val (r.2.1 : Int))])), (p0_0, (J.Cel.lst ((r.2.2 : List Int).map J.Slot.val)))]
abbrev A_law_wide (p0 : PySem.Addr) (p0_0 : PySem.Addr) (a0_0 : (List Int)) (a0_1 : Int) (a0_2 : Int) : List J.Slot := [(J.Slot.v (.ref p0))]
abbrev D_law_wide (p0 : PySem.Addr) (p0_0 : PySem.Addr) (a0_0 : (List Int)) (a0_1 : Int) (a0_2 : Int) : List (PySem.Addr × J.Cel) := [(p0, (J.Cel.lst [(J.Slot.v (.ref p0_0)), (J.Slot.val (a0_1 : Int)), (J.Slot.val (a0_2 : Int))])), (p0_0, (J.Cel.lst ((a0_0 : List Int).map J.Slot.val)))]
def F_law_wide (K : PySem.W.Frag) : J.FS G_law_wide where
  pre := fun g => m_law_wide g.a0_0 g.a0_1 g.a0_2 = some g.out
  preG := fun _ _ => True
  args := fun g => A_law_wide g.p0 g.p0_0 g.a0_0 g.a0_1 g.a0_2
  cells := fun g => D_law_wide g.p0 g.p0_0 g.a0_0 g.a0_1 g.a0_2
  res := fun g => R_law_wide g.out
  cells' := fun g => C_law_wide g.p0 g.p0_0 g.a0_0 g.a0_1 g.a0_2 g.out
theorem ok_law_wide (W : Wd K mg) : FnOk P w K mg base CX0 2 W.a__law_wide W.d__law_wide ["bag"] (F_law_wide K).sp := by
  refine J.fn_okD (F_law_wide K) W.F__law_wide sc__law_wide (fun g => rfl) (fun g => by intro s hs; simp only [F_law_wide, List.mem_cons, List.not_mem_nil, or_false] at hs; rcases hs with rfl <;> first | rfl | exact J.xsl_plain) (fun cdv A outer s H E hr B g h hG => ?_)
  have hN := (sc__law_wide).nd
  obtain ⟨p0, p0_0, a0_0, a0_1, a0_2, r0⟩ := g
  change m_law_wide a0_0 a0_1 a0_2 = some r0 at h
  unfold m_law_wide at h
  change J.JS _ B (⟨[(J.Slot.v (.ref p0))], [(p0, (J.Cel.lst [(J.Slot.v (.ref p0_0)), (J.Slot.val (a0_1 : Int)), (J.Slot.val (a0_2 : Int))])), (p0_0, (J.Cel.lst ((a0_0 : List Int).map J.Slot.val)))]⟩ : J.Stt) _ (J.fend B (F_law_wide K) ⟨p0, p0_0, a0_0, a0_1, a0_2, r0⟩)
  obtain ⟨x1, hx1, h⟩ := J.bndE h
  obtain ⟨x2, hx2, h⟩ := J.bndE h
  obtain ⟨x3, hx3, h⟩ := J.bndE h
  have h9 := Option.some.inj h
  subst h9
  exact J.js_ret (J.je_add J.je_int (J.je_call (f := F_law_draw K) (ok_law_draw W) hr (by decide) W.g__law_draw W.F__law_draw.kp W.b__law_draw (J.ja_cons (J.je_var 0 rfl) (J.ja_cons (J.je_ixv (xs := ([4, 12, 12, 300] : List Int)) (J.je_lstv (xs := ([4, 12, 12, 300] : List Int)) (J.ja_cons J.je_int (J.ja_cons J.je_int (J.ja_cons J.je_int (J.ja_cons J.je_int J.ja_nil))))) (J.je_call (f := F_law_draw K) (ok_law_draw W) hr (by decide) W.g__law_draw W.F__law_draw.kp W.b__law_draw (J.ja_cons (J.je_var 0 rfl) (J.ja_cons J.je_int J.ja_nil)) (g := (⟨p0, p0_0, 4, a0_0, a0_1, a0_2, x1⟩ : G_law_draw)) hx1 rfl (.cons 0 rfl (by nofun) (.cons 1 rfl (by nofun) .nil)) (.cons 0 rfl (.cons 1 rfl .nil)) (hG := fun G e => trivial)) J.lv_own' hx2) J.ja_nil)) (g := (⟨p0, p0_0, x2, x1.2.2, a0_1, x1.2.1, x3⟩ : G_law_draw)) hx3 rfl (.cons 0 rfl (by nofun) (.cons 1 rfl (by nofun) .nil)) (.cons 0 rfl (.cons 1 rfl .nil)) (hG := fun G e => trivial))) fun v H o => J.Out.take 2 o
structure G_law_due where
  p0 : PySem.Addr
  a1 : Int
  a0 : (List Int)
  out : (List (List Int))
abbrev R_law_due (r : (List (List Int))) : J.Slot := (J.Slot.own (J.Cel.lst ((r : List (List Int)).map J.Slot.val)))
abbrev C_law_due (p0 : PySem.Addr) (a1 : Int) (a0 : (List Int)) (r : (List (List Int))) : List (PySem.Addr × J.Cel) := [(p0, (J.Cel.lst ((a0 : List Int).map J.Slot.val)))]
abbrev A_law_due (p0 : PySem.Addr) (a1 : Int) (a0 : (List Int)) : List J.Slot := [(J.Slot.v (.ref p0)), (J.Slot.val (a1 : Int))]
abbrev D_law_due (p0 : PySem.Addr) (a1 : Int) (a0 : (List Int)) : List (PySem.Addr × J.Cel) := [(p0, (J.Cel.lst ((a0 : List Int).map J.Slot.val)))]
def F_law_due (K : PySem.W.Frag) : J.FS G_law_due where
  pre := fun g => m_law_due g.a1 g.a0 = some g.out
  preG := fun _ _ => True
  args := fun g => A_law_due g.p0 g.a1 g.a0
  cells := fun g => D_law_due g.p0 g.a1 g.a0
  res := fun g => R_law_due g.out
  cells' := fun g => C_law_due g.p0 g.a1 g.a0 g.out
theorem ok_law_due (W : Wd K mg) : FnOk P w K mg base CX0 1 W.a__law_due W.d__law_due ["line", "wide"] (F_law_due K).sp := by
  refine J.fn_okD (F_law_due K) W.F__law_due sc__law_due (fun g => rfl) (fun g => by intro s hs; simp only [F_law_due, List.mem_cons, List.not_mem_nil, or_false] at hs; rcases hs with rfl | rfl <;> first | rfl | exact J.xsl_plain) (fun cdv A outer s H E hr B g h hG => ?_)
  have hN := (sc__law_due).nd
  obtain ⟨p0, a1, a0, r0⟩ := g
  change m_law_due a1 a0 = some r0 at h
  unfold m_law_due at h
  change J.JS _ B (⟨[(J.Slot.v (.ref p0)), (J.Slot.val (a1 : Int)), J.Slot.any, J.Slot.any, J.Slot.any, J.Slot.any, J.Slot.any], [(p0, (J.Cel.lst ((a0 : List Int).map J.Slot.val)))]⟩ : J.Stt) _ (J.fend B (F_law_due K) ⟨p0, a1, a0, r0⟩)
  refine J.js_new (hN := hN) 2 (J.je_disp0 (β := Int)) fun p1 => ?_
  refine J.js_new (hN := hN) 3 (J.je_lstv (xs := ([] : List (List Int))) J.ja_nil) fun p2 => ?_
  obtain ⟨s13, hs13, h⟩ := J.bndE h
  refine J.js_forE (π := Unit) (f := m_law_due_b1 a1) (Sf := fun (q4 : Unit) (s3 : ((List (Int × Int)) × (List (List Int)))) => (⟨[(J.Slot.v (.ref p0)), (J.Slot.val (a1 : Int)), (J.Slot.v (.ref p1)), (J.Slot.v (.ref p2)), J.Slot.any, J.Slot.any, J.Slot.any], [(p0, (J.Cel.lst ((a0 : List Int).map J.Slot.val))), (p1, (J.Cel.dk (J.dks (s3.1 : List (Int × Int))) (J.dss (s3.1 : List (Int × Int))))), (p2, (J.Cel.lst ((s3.2 : List (List Int)).map J.Slot.val)))]⟩ : J.Stt)) (Sb := fun (q4 : Unit) (s3 : ((List (Int × Int)) × (List (List Int)))) (x5 : (Int × Int)) => (⟨[(J.Slot.v (.ref p0)), (J.Slot.val (a1 : Int)), (J.Slot.v (.ref p1)), (J.Slot.v (.ref p2)), (J.Slot.val (x5.1 : Int)), (J.Slot.val (x5.2 : Int)), J.Slot.any], [(p0, (J.Cel.lst ((a0 : List Int).map J.Slot.val))), (p1, (J.Cel.dk (J.dks (s3.1 : List (Int × Int))) (J.dss (s3.1 : List (Int × Int))))), (p2, (J.Cel.lst ((s3.2 : List (List Int)).map J.Slot.val)))]⟩ : J.Stt)) hs13 (J.ji_enum (xs := a0) (ok := fun S => S.cs[0]? = some (p0, (J.Cel.lst ((a0 : List Int).map J.Slot.val)))) W.l_enumerate (J.je_var 0 rfl) (J.lv_cell' 0 rfl) (fun _ h => J.lv_cell' 0 h)) (fun _ _ _ _ g => ⟨(), J.le_fgt (sl := [(J.Slot.v (.ref p0)), (J.Slot.val (a1 : Int)), (J.Slot.v (.ref p1)), (J.Slot.v (.ref p2)), J.Slot.any, J.Slot.any, J.Slot.any]) (cs := [(p0, (J.Cel.lst ((a0 : List Int).map J.Slot.val))), (p1, (J.Cel.dk (J.dks ((([] : List (Int × Int)), ([] : List (List Int))).1 : List (Int × Int))) (J.dss ((([] : List (Int × Int)), ([] : List (List Int))).1 : List (Int × Int))))), (p2, (J.Cel.lst (((([] : List (Int × Int)), ([] : List (List Int))).2 : List (List Int)).map J.Slot.val)))]) 3 (.keep (.keep (.keep (.keep (.drop (.drop (.drop .nil))))))) rfl _ _ _ _ g⟩) (fun _ _ => rfl) (fun q4 s3 x5 => (J.jg_pair (J.jgs_cons (J.jg_name 4 (hN := hN)) (J.jgs_cons (J.jg_name 5 (hN := hN)) J.jgs_nil)))) (fun q4 s3 x5 sY _ h => ?_) (fun q4 => ?_)
  · unfold m_law_due_b1 at h
    change J.JS _ _ (⟨[(J.Slot.v (.ref p0)), (J.Slot.val (a1 : Int)), (J.Slot.v (.ref p1)), (J.Slot.v (.ref p2)), (J.Slot.val (x5.1 : Int)), (J.Slot.val (x5.2 : Int)), J.Slot.any], [(p0, (J.Cel.lst ((a0 : List Int).map J.Slot.val))), (p1, (J.Cel.dk (J.dks (s3.1 : List (Int × Int))) (J.dss (s3.1 : List (Int × Int))))), (p2, (J.Cel.lst ((s3.2 : List (List Int)).map J.Slot.val)))]⟩ : J.Stt) _ _
    obtain ⟨x6, hx6, h⟩ := J.bndE h
    refine J.js_dputI (m := s3.1) 1 hr (J.je_var 4 rfl) (J.je_var 2 rfl) (J.je_var 5 rfl) rfl hx6 ?_
    change J.JS _ _ (⟨[(J.Slot.v (.ref p0)), (J.Slot.val (a1 : Int)), (J.Slot.v (.ref p1)), (J.Slot.v (.ref p2)), (J.Slot.val (x5.1 : Int)), (J.Slot.val (x5.2 : Int)), J.Slot.any], [(p0, (J.Cel.lst ((a0 : List Int).map J.Slot.val))), (p1, (J.Cel.dk (J.dks (x6 : List (Int × Int))) (J.dss (x6 : List (Int × Int))))), (p2, (J.Cel.lst ((s3.2 : List (List Int)).map J.Slot.val)))]⟩ : J.Stt) _ _
    obtain ⟨x11, hx11, h⟩ := J.bndE h
    obtain ⟨x12, hx12, h⟩ := J.bndE h
    refine J.js_expr (J.je_appG (xs := s3.2) (t := ((J.sortI x11.1) : (List Int))) 2 (J.je_var 3 rfl) rfl (J.je_frL (J.je_sortI (xs := x11.1) W.l_sorted (J.je_lockD (m := x6) 1 rfl (fun ob gs hks => (J.je_lc (f := m_law_due_c0 a1 x5 x6) (el := J.Slot.val) (Sf := fun (s7 : Unit) => (⟨[(J.Slot.v (.ref p0)), (J.Slot.val (a1 : Int)), (J.Slot.v (.ref p1)), (J.Slot.v (.ref p2)), (J.Slot.val (x5.1 : Int)), (J.Slot.val (x5.2 : Int)), J.Slot.any], [(p0, (J.Cel.lst ((a0 : List Int).map J.Slot.val))), (p1, (J.Cel.fdk ob gs (J.dss (x6 : List (Int × Int))))), (p2, (J.Cel.lst ((s3.2 : List (List Int)).map J.Slot.val)))]⟩ : J.Stt)) (Sb := fun (s7 : Unit) (x9 : Int) => (⟨[(J.Slot.v (.ref p0)), (J.Slot.val (a1 : Int)), (J.Slot.v (.ref p1)), (J.Slot.v (.ref p2)), (J.Slot.val (x5.1 : Int)), (J.Slot.val (x5.2 : Int)), (J.Slot.val (x9 : Int))], [(p0, (J.Cel.lst ((a0 : List Int).map J.Slot.val))), (p1, (J.Cel.fdk ob gs (J.dss (x6 : List (Int × Int))))), (p2, (J.Cel.lst ((s3.2 : List (List Int)).map J.Slot.val)))]⟩ : J.Stt)) (s0 := ()) (own := [(("one" : PySem.Str), 6)]) (ws := [6]) (J.lcM_of hx11).2 (J.lcM_of hx11).1 hN (L2.blkOk_by (N := ["line", "wide", "last", "found", "at", "page", "one"]) (sc := defScope s__law_due) (by decide +kernel)) (J.ji_dkeys (m := x6) 1 hks (J.je_var 2 rfl) rfl) (J.le_fgt 3 (.keep (.keep (.keep (.keep (.keep (.keep (.drop .nil))))))) rfl) (fun _ => rfl) (fun _ => J.any_at rfl) (by decide) (fun s7 x9 => fun s1 H1 C1 cl1 fp1 =>  J.inJG hN fun hN => (J.jg_name 6 (hN := hN))) (fun s7 x9 o sZ _ h => by
      unfold m_law_due_c0 at h
      obtain ⟨x10, hx10, h⟩ := J.bndE h
      by_cases hp : (decide ((x5.1 - a1) < x10)) = true
      · replace h := J.ifT hp h
        obtain ⟨h8, h9⟩ := Prod.mk.inj (Option.some.inj h)
        subst h8
        subst h9
        exact ⟨true, _, (fun s1 H1 C1 cl1 fp1 =>  J.inJTs hr hN fun hr hN => J.jts_one (J.jt_eq (J.jt_gt (J.je_dgetF (m := x6) 1 hks hr (J.je_var 2 rfl) (J.je_var 6 rfl) rfl hx10) (J.je_sub (J.je_var 4 rfl) (J.je_var 1 rfl))) hp)), fun _ => ⟨_, _, rfl, (fun s1 H1 C1 cl1 fp1 =>  J.inJE hr hN fun hr hN => (J.je_var 6 rfl)), (J.le_fgt 3 (.keep (.keep (.keep (.keep (.keep (.keep (.drop .nil))))))) rfl)⟩, nofun⟩
      · rw [Bool.not_eq_true] at hp
        replace h := J.ifF hp h
        obtain ⟨h8, h9⟩ := Prod.mk.inj (Option.some.inj h)
        subst h8
        subst h9
        exact ⟨false, _, (fun s1 H1 C1 cl1 fp1 =>  J.inJTs hr hN fun hr hN => J.jts_one (J.jt_eq (J.jt_gt (J.je_dgetF (m := x6) 1 hks hr (J.je_var 2 rfl) (J.je_var 6 rfl) rfl hx10) (J.je_sub (J.je_var 4 rfl) (J.je_var 1 rfl))) hp)), nofun, fun _ => ⟨rfl, (J.le_fgt 3 (.keep (.keep (.keep (.keep (.keep (.keep (.drop .nil))))))) rfl)⟩⟩)))) J.lv_own')) rfl hx12) ?_
    have h9 := Option.some.inj h
    subst h9
    exact J.js_nil fun T tv σ H g => ⟨(), J.le_fgt (sl := [(J.Slot.v (.ref p0)), (J.Slot.val (a1 : Int)), (J.Slot.v (.ref p1)), (J.Slot.v (.ref p2)), J.Slot.any, J.Slot.any, J.Slot.any]) (cs := [(p0, (J.Cel.lst ((a0 : List Int).map J.Slot.val))), (p1, (J.Cel.dk (J.dks ((x6, x12).1 : List (Int × Int))) (J.dss ((x6, x12).1 : List (Int × Int))))), (p2, (J.Cel.lst (((x6, x12).2 : List (List Int)).map J.Slot.val)))]) 3 (.keep (.keep (.keep (.keep (.drop (.drop (.drop .nil))))))) rfl _ _ _ _ g⟩
  change J.JS _ _ (⟨[(J.Slot.v (.ref p0)), (J.Slot.val (a1 : Int)), (J.Slot.v (.ref p1)), (J.Slot.v (.ref p2)), J.Slot.any, J.Slot.any, J.Slot.any], [(p0, (J.Cel.lst ((a0 : List Int).map J.Slot.val))), (p1, (J.Cel.dk (J.dks (s13.1 : List (Int × Int))) (J.dss (s13.1 : List (Int × Int))))), (p2, (J.Cel.lst ((s13.2 : List (List Int)).map J.Slot.val)))]⟩ : J.Stt) _ _
  have h9 := Option.some.inj h
  subst h9
  exact J.js_ret (J.je_own 2 (J.je_var 3 rfl) rfl) fun v H o => J.Out.take 1 o
structure G_need_window where
  a0 : Int
  a1 : Int
  out : Unit
abbrev R_need_window (r : Unit) : J.Slot := (J.Slot.v .non)
abbrev C_need_window (a0 : Int) (a1 : Int) (r : Unit) : List (PySem.Addr × J.Cel) := []
abbrev A_need_window (a0 : Int) (a1 : Int) : List J.Slot := [(J.Slot.val (a0 : Int)), (J.Slot.val (a1 : Int))]
abbrev D_need_window (a0 : Int) (a1 : Int) : List (PySem.Addr × J.Cel) := []
def F_need_window (K : PySem.W.Frag) : J.FS G_need_window where
  pre := fun g => m_need_window g.a0 g.a1 = some g.out
  preG := fun _ _ => True
  args := fun g => A_need_window g.a0 g.a1
  cells := fun g => D_need_window g.a0 g.a1
  res := fun g => R_need_window g.out
  cells' := fun g => C_need_window g.a0 g.a1 g.out
theorem ok_need_window (W : Wd K mg) : FnOk P w K mg base CX0 1 W.a_need_window W.d_need_window ["window", "what"] (F_need_window K).sp := by
  refine J.fn_okD (F_need_window K) W.F_need_window sc_need_window (fun g => rfl) (fun g => by intro s hs; simp only [F_need_window, List.mem_cons, List.not_mem_nil, or_false] at hs; rcases hs with rfl | rfl <;> first | rfl | exact J.xsl_plain) (fun cdv A outer s H E hr B g h hG => ?_)
  have hN := (sc_need_window).nd
  obtain ⟨a0, a1, r0⟩ := g
  change m_need_window a0 a1 = some r0 at h
  unfold m_need_window at h
  change J.JS _ B (⟨[(J.Slot.val (a0 : Int)), (J.Slot.val (a1 : Int))], []⟩ : J.Stt) _ (J.fend B (F_need_window K) ⟨a0, a1, r0⟩)
  refine J.js_if (J.jt_lt (J.je_var 0 rfl) J.je_int) (fun hp => ?_) (fun hp => ?_)
  · replace h := J.ifT hp h
    exact nomatch h
  · replace h := J.ifF hp h
    refine J.js_end ?_
    change J.JS _ _ (⟨[(J.Slot.val (a0 : Int)), (J.Slot.val (a1 : Int))], []⟩ : J.Stt) _ _
    have h9 := Option.some.inj h
    subst h9
    exact J.js_fin 0 rfl rfl
structure G_working where
  p0 : PySem.Addr
  a1 : Int
  a0 : (List Int)
  out : (List (List Int))
abbrev R_working (r : (List (List Int))) : J.Slot := (J.Slot.own (J.mlC J.intsC (r : List (List Int))))
abbrev C_working (p0 : PySem.Addr) (a1 : Int) (a0 : (List Int)) (r : (List (List Int))) : List (PySem.Addr × J.Cel) := [(p0, (J.Cel.lst ((a0 : List Int).map J.Slot.val)))]
abbrev A_working (p0 : PySem.Addr) (a1 : Int) (a0 : (List Int)) : List J.Slot := [(J.Slot.v (.ref p0)), (J.Slot.val (a1 : Int))]
abbrev D_working (p0 : PySem.Addr) (a1 : Int) (a0 : (List Int)) : List (PySem.Addr × J.Cel) := [(p0, (J.Cel.lst ((a0 : List Int).map J.Slot.val)))]
def F_working (K : PySem.W.Frag) : J.FS G_working where
  pre := fun g => m_working g.a1 g.a0 = some g.out
  preG := fun _ _ => True
  args := fun g => A_working g.p0 g.a1 g.a0
  cells := fun g => D_working g.p0 g.a1 g.a0
  res := fun g => R_working g.out
  cells' := fun g => C_working g.p0 g.a1 g.a0 g.out
theorem ok_working (W : Wd K mg) : FnOk P w K mg base CX0 2 W.a_working W.d_working ["trace", "window"] (F_working K).sp := by
  refine J.fn_okD (F_working K) W.F_working sc_working (fun g => rfl) (fun g => by intro s hs; simp only [F_working, List.mem_cons, List.not_mem_nil, or_false] at hs; rcases hs with rfl | rfl <;> first | rfl | exact J.xsl_plain) (fun cdv A outer s H E hr B g h hG => ?_)
  have hN := (sc_working).nd
  obtain ⟨p0, a1, a0, r0⟩ := g
  change m_working a1 a0 = some r0 at h
  unfold m_working at h
  change J.JS _ B (⟨[(J.Slot.v (.ref p0)), (J.Slot.val (a1 : Int)), J.Slot.any], [(p0, (J.Cel.lst ((a0 : List Int).map J.Slot.val)))]⟩ : J.Stt) _ (J.fend B (F_working K) ⟨p0, a1, a0, r0⟩)
  obtain ⟨x1, hx1, h⟩ := J.bndE h
  refine J.js_expr (J.je_call (f := F_need_window K) (ok_need_window W) hr (by decide) W.g_need_window W.F_need_window.kp W.b_need_window (J.ja_cons (J.je_var 1 rfl) (J.ja_cons (J.je_var 1 rfl) J.ja_nil)) (g := (⟨a1, a1, x1⟩ : G_need_window)) hx1 rfl .nil .nil (hG := fun G e => trivial)) ?_
  change J.JS _ _ (⟨[(J.Slot.v (.ref p0)), (J.Slot.val (a1 : Int)), J.Slot.any], [(p0, (J.Cel.lst ((a0 : List Int).map J.Slot.val)))]⟩ : J.Stt) _ _
  obtain ⟨x2, hx2, h⟩ := J.bndE h
  obtain ⟨x7, hx7, h⟩ := J.bndE h
  have h9 := Option.some.inj h
  subst h9
  exact J.js_ret (J.je_lc (f := m_working_c0 a1 a0) (el := fun (z9 : List Int) => J.Slot.own (J.intsC z9)) (Sf := fun (s3 : Unit) => (⟨[(J.Slot.v (.ref p0)), (J.Slot.val (a1 : Int)), J.Slot.any], [(p0, (J.Cel.lst ((a0 : List Int).map J.Slot.val)))]⟩ : J.Stt)) (Sb := fun (s3 : Unit) (x5 : Int) => (⟨[(J.Slot.v (.ref p0)), (J.Slot.val (a1 : Int)), (J.Slot.val (x5 : Int))], [(p0, (J.Cel.lst ((a0 : List Int).map J.Slot.val)))]⟩ : J.Stt)) (s0 := ()) (own := [(("at" : PySem.Str), 2)]) (ws := [2]) (J.lcM_of hx7).2 (J.lcM_of hx7).1 hN (L2.blkOk_by (N := ["trace", "window", "at"]) (sc := defScope s_working) (by decide +kernel)) (J.ji_rngG W.l_range (J.je_len (n := "len") (xs := a0) W.l_len (J.je_var 0 rfl) (J.lv_cell' 0 rfl)) hx2) (J.le_fgt 1 (.keep (.keep (.drop .nil))) rfl) (fun _ => trivial) (fun _ => J.any_at rfl) (by decide) (fun s3 x5 => fun s1 H1 C1 cl1 fp1 =>  J.inJG hN fun hN => (J.jg_name 2 (hN := hN))) (fun s3 x5 o sZ _ h => by
      unfold m_working_c0 at h
      obtain ⟨x6, hx6, h⟩ := J.bndE h
      obtain ⟨h8, h9⟩ := Prod.mk.inj (Option.some.inj h)
      subst h8
      subst h9
      exact ⟨true, _, (fun s1 H1 C1 cl1 fp1 =>  J.jts_nil), fun _ => ⟨_, _, rfl, (fun s1 H1 C1 cl1 fp1 =>  J.inJE hr hN fun hr hN => (J.je_sortSet (ns := (J.slc a0 (some (if ((x5 + 1) - a1) > 0 then ((x5 + 1) - a1) else 0)) (some (x5 + 1)))) W.l_sorted W.l_set (J.je_slcv (xs := a0) (J.je_var 0 rfl) (J.jo_some (J.je_max2 W.l_max J.je_int (J.je_sub (J.je_add (J.je_var 2 rfl) J.je_int) (J.je_var 1 rfl)))) (J.jo_some (J.je_add (J.je_var 2 rfl) J.je_int)) (J.lv_cell' 0 rfl)) J.lv_own' hx6)), (J.le_fgt 1 (.keep (.keep (.drop .nil))) rfl)⟩, nofun⟩)) fun v H o => J.Out.take 1 o
structure G_law where
  p0 : PySem.Addr
  a0 : List Int
  out : Bool
abbrev R_law (r : Bool) : J.Slot := (J.Slot.val (r : Bool))
abbrev C_law (p0 : PySem.Addr) (a0 : List Int) (r : Bool) : List (PySem.Addr × J.Cel) := []
abbrev A_law (p0 : PySem.Addr) (a0 : List Int) : List J.Slot := [(J.Slot.v (.ref p0))]
abbrev D_law (p0 : PySem.Addr) (a0 : List Int) : List (PySem.Addr × J.Cel) := []
def F_law (K : PySem.W.Frag) : J.FS G_law where
  pre := fun g => m_law g.a0 = some g.out
  preG := fun g G => L2.SqL K G g.p0 (g.a0.map V.int)
  args := fun g => A_law g.p0 g.a0
  cells := fun g => D_law g.p0 g.a0
  res := fun g => R_law g.out
  cells' := fun g => C_law g.p0 g.a0 g.out
theorem ok_law (W : Wd K mg) : J.FnG P w K mg base CX0 4 W.a_law W.d_law ["script"] (F_law K).sp := by
  refine J.fn_okG (F_law K) W.F_law sc_law (fun g => rfl) (fun g => by intro s hs; simp only [F_law, List.mem_cons, List.not_mem_nil, or_false] at hs; rcases hs with rfl <;> first | rfl | exact J.xsl_plain) (fun cdv A outer s H E hgd hr B g h hG => ?_)
  have hN := (sc_law).nd
  obtain ⟨p0, a0, r0⟩ := g
  change m_law a0 = some r0 at h
  unfold m_law at h
  change J.JS _ B (⟨[(J.Slot.v (.ref p0)), J.Slot.any, J.Slot.any, J.Slot.any, J.Slot.any, J.Slot.any, J.Slot.any, J.Slot.any, J.Slot.any, J.Slot.any, J.Slot.any], []⟩ : J.Stt) _ (J.fend B (F_law K) ⟨p0, a0, r0⟩)
  obtain ⟨x1, hx1, h⟩ := J.bndE h
  refine J.js_new (hN := hN) 1 (J.je_call (f := F_law_bag K) (ok_law_bag W) hr (by decide) W.g__law_bag W.F__law_bag.kp W.b__law_bag (J.ja_cons (J.je_var 0 rfl) J.ja_nil) (g := (⟨p0, a0, x1⟩ : G_law_bag)) hx1 rfl .nil .nil (hG := fun G e => J.sql_mono hG e)) fun p2 => ?_
  refine J.js_open 0 0 rfl rfl fun p3 => ?_
  change J.JS _ _ (⟨[(J.Slot.v (.ref p0)), (J.Slot.v (.ref p2)), J.Slot.any, J.Slot.any, J.Slot.any, J.Slot.any, J.Slot.any, J.Slot.any, J.Slot.any, J.Slot.any, J.Slot.any], [(p2, (J.Cel.lst [(J.Slot.v (.ref p3)), (J.Slot.val (x1.2.1 : Int)), (J.Slot.val (x1.2.2 : Int))])), (p3, (J.Cel.lst ((x1.1 : List Int).map J.Slot.val)))]⟩ : J.Stt) _ _
  obtain ⟨x4, hx4, h⟩ := J.bndE h
  obtain ⟨x11, hx11, h⟩ := J.bndE h
  refine J.js_newLc 2 (f := m_law_c0 x1) (el := (fun (y9 : ((List Int) × Int)) => J.Slot.otup (J.Slot.own (J.Cel.lst (y9.1.map J.Slot.val)) :: [(J.Slot.val (y9.2 : Int))]))) (Sf := fun (s5 : (Int × (List Int))) => (⟨[(J.Slot.v (.ref p0)), (J.Slot.v (.ref p2)), J.Slot.any, J.Slot.any, J.Slot.any, J.Slot.any, J.Slot.any, J.Slot.any, J.Slot.any, J.Slot.any, J.Slot.any], [(p2, (J.Cel.lst [(J.Slot.v (.ref p3)), (J.Slot.val (x1.2.1 : Int)), (J.Slot.val (s5.1 : Int))])), (p3, (J.Cel.lst ((s5.2 : List Int).map J.Slot.val)))]⟩ : J.Stt)) (Sb := fun (s5 : (Int × (List Int))) (x7 : Int) => (⟨[(J.Slot.v (.ref p0)), (J.Slot.v (.ref p2)), J.Slot.any, J.Slot.any, J.Slot.any, J.Slot.any, J.Slot.any, J.Slot.any, J.Slot.any, (J.Slot.val (x7 : Int)), J.Slot.any], [(p2, (J.Cel.lst [(J.Slot.v (.ref p3)), (J.Slot.val (x1.2.1 : Int)), (J.Slot.val (s5.1 : Int))])), (p3, (J.Cel.lst ((s5.2 : List Int).map J.Slot.val)))]⟩ : J.Stt)) (s0 := (x1.2.2, x1.1)) (own := [(("k" : PySem.Str), 9)]) (ws := [9]) (J.lcM_of hx11).2 (J.lcM_of hx11).1 hN (L2.blkOk_by (N := ["script", "bag", "sides", "line", "wide", "kept", "due", "found", "at", "k", "one"]) (sc := defScope s_law) (by decide +kernel)) (J.ji_rngG W.l_range J.je_int hx4) (J.le_fgt 2 (.keep (.keep (.drop (.drop (.drop (.drop (.drop (.drop (.drop (.drop (.drop .nil))))))))))) rfl) (fun _ => trivial) (fun _ => J.any_at rfl) (by decide) (fun s5 x7 => fun s1 H1 C1 cl1 fp1 =>  J.inJG hN fun hN => (J.jg_name 9 (hN := hN))) (fun s5 x7 o sZ _ h => by
      unfold m_law_c0 at h
      obtain ⟨x8, hx8, h⟩ := J.bndE h
      obtain ⟨x9, hx9, h⟩ := J.bndE h
      obtain ⟨x10, hx10, h⟩ := J.bndE h
      obtain ⟨h8, h9⟩ := Prod.mk.inj (Option.some.inj h)
      subst h8
      subst h9
      exact ⟨true, _, (fun s1 H1 C1 cl1 fp1 =>  J.jts_nil), fun _ => ⟨_, _, rfl, (fun s1 H1 C1 cl1 fp1 =>  J.inJE hr hN fun hr hN => (J.je_otup (J.ja_cons (J.je_call (f := F_law_line K) (ok_law_line W) hr (by decide) W.g__law_line W.F__law_line.kp W.b__law_line (J.ja_cons (J.je_var 1 rfl) (J.ja_cons (J.je_call (f := F_law_most K) (ok_law_most W) hr (by decide) W.g__law_most W.F__law_most.kp W.b__law_most (J.ja_cons (J.je_var 1 rfl) J.ja_nil) (g := (⟨p2, p3, s5.2, x1.2.1, s5.1, x8⟩ : G_law_most)) hx8 rfl (.cons 0 rfl (by nofun) (.cons 1 rfl (by nofun) .nil)) (.cons 0 rfl (.cons 1 rfl .nil)) (hG := fun G e => trivial)) J.ja_nil)) (g := (⟨p2, p3, x8.1, x8.2.2, x1.2.1, x8.2.1, x9⟩ : G_law_line)) hx9 rfl (.cons 0 rfl (by nofun) (.cons 1 rfl (by nofun) .nil)) (.cons 0 rfl (.cons 1 rfl .nil)) (hG := fun G e => trivial)) (J.ja_cons (J.je_call (f := F_law_wide K) (ok_law_wide W) hr (by decide) W.g__law_wide W.F__law_wide.kp W.b__law_wide (J.ja_cons (J.je_var 1 rfl) J.ja_nil) (g := (⟨p2, p3, x9.2.2, x1.2.1, x9.2.1, x10⟩ : G_law_wide)) hx10 rfl (.cons 0 rfl (by nofun) (.cons 1 rfl (by nofun) .nil)) (.cons 0 rfl (.cons 1 rfl .nil)) (hG := fun G e => trivial)) J.ja_nil)))), (J.le_fgt 2 (.keep (.keep (.drop (.drop (.drop (.drop (.drop (.drop (.drop (.drop (.drop .nil))))))))))) rfl)⟩, nofun⟩) fun p12 => ?_
  change J.JS _ _ (⟨[(J.Slot.v (.ref p0)), (J.Slot.v (.ref p2)), (J.Slot.v (.ref p12)), J.Slot.any, J.Slot.any, J.Slot.any, J.Slot.any, J.Slot.any, J.Slot.any, J.Slot.any, J.Slot.any], [(p2, (J.Cel.lst [(J.Slot.v (.ref p3)), (J.Slot.val (x1.2.1 : Int)), (J.Slot.val (x11.2.1 : Int))])), (p3, (J.Cel.lst ((x11.2.2 : List Int).map J.Slot.val))), (p12, (J.Cel.lst ((x11.1 : List ((List Int) × Int)).map (fun (y9 : ((List Int) × Int)) => J.Slot.otup (J.Slot.own (J.Cel.lst (y9.1.map J.Slot.val)) :: [(J.Slot.val (y9.2 : Int))])))))]⟩ : J.Stt) _ _
  obtain ⟨x13, hx13, h⟩ := J.bndE h
  refine J.js_open2 (cf := fun (y9 : ((List Int) × Int)) => (J.Cel.lst (y9.1.map J.Slot.val))) (tf := fun (y9 : ((List Int) × Int)) => [(J.Slot.val (y9.2 : Int))]) 2 hx13 rfl (fun y s hs => by simp only [List.mem_cons, List.not_mem_nil, or_false] at hs; first | (rw [hs]; rfl) | (rcases hs with rfl | rfl <;> rfl)) fun p14 p15 => ?_
  change J.JS _ _ (⟨[(J.Slot.v (.ref p0)), (J.Slot.v (.ref p2)), (J.Slot.v (.ref p12)), J.Slot.any, J.Slot.any, J.Slot.any, J.Slot.any, J.Slot.any, J.Slot.any, J.Slot.any, J.Slot.any], [(p2, (J.Cel.lst [(J.Slot.v (.ref p3)), (J.Slot.val (x1.2.1 : Int)), (J.Slot.val (x11.2.1 : Int))])), (p3, (J.Cel.lst ((x11.2.2 : List Int).map J.Slot.val))), (p12, (J.Cel.lst [J.Slot.say (J.Td p14 [(J.Slot.val (x13.1.2 : Int))]), J.Slot.say (J.Td p15 [(J.Slot.val (x13.2.2 : Int))])])), (p14, (J.Cel.lst ((x13.1.1 : List Int).map J.Slot.val))), (p15, (J.Cel.lst ((x13.2.1 : List Int).map J.Slot.val)))]⟩ : J.Stt) _ _
  obtain ⟨o78, ho78, h⟩ := J.bndE h
  refine J.js_forLEV (π := Unit) (Rr := fun r => J.Out B (R_law r) (C_law p0 a0 r)) (ei := fun x18 => cond x18 (J.Slot.say (J.Td p15 [(J.Slot.val (x13.2.2 : Int))])) (J.Slot.say (J.Td p14 [(J.Slot.val (x13.1.2 : Int))]))) (xs := [false, true, false]) (f := m_law_b5 x13) (Sf := fun (q17 : Unit) (s16 : ((List Int) × (List Int))) => (⟨[(J.Slot.v (.ref p0)), (J.Slot.v (.ref p2)), (J.Slot.v (.ref p12)), J.Slot.any, J.Slot.any, J.Slot.any, J.Slot.any, J.Slot.any, J.Slot.any, J.Slot.any, J.Slot.any], [(p2, (J.Cel.lst [(J.Slot.v (.ref p3)), (J.Slot.val (x1.2.1 : Int)), (J.Slot.val (x11.2.1 : Int))])), (p3, (J.Cel.lst ((x11.2.2 : List Int).map J.Slot.val))), (p12, (J.Cel.lst [J.Slot.say (J.Td p14 [(J.Slot.val (x13.1.2 : Int))]), J.Slot.say (J.Td p15 [(J.Slot.val (x13.2.2 : Int))])])), (p14, (J.Cel.lst ((s16.1 : List Int).map J.Slot.val))), (p15, (J.Cel.lst ((s16.2 : List Int).map J.Slot.val)))]⟩ : J.Stt)) (Sb := fun (q17 : Unit) (s16 : ((List Int) × (List Int))) (x18 : Bool) => (⟨[(J.Slot.v (.ref p0)), (J.Slot.v (.ref p2)), (J.Slot.v (.ref p12)), (J.Slot.v (.ref (cond x18 p15 p14))), (J.Slot.val ((cond x18 x13.2.2 x13.1.2) : Int)), J.Slot.any, J.Slot.any, J.Slot.any, J.Slot.any, J.Slot.any, J.Slot.any], [(p2, (J.Cel.lst [(J.Slot.v (.ref p3)), (J.Slot.val (x1.2.1 : Int)), (J.Slot.val (x11.2.1 : Int))])), (p3, (J.Cel.lst ((x11.2.2 : List Int).map J.Slot.val))), (p12, (J.Cel.lst [J.Slot.say (J.Td p14 [(J.Slot.val (x13.1.2 : Int))]), J.Slot.say (J.Td p15 [(J.Slot.val (x13.2.2 : Int))])])), (p14, (J.Cel.lst ((s16.1 : List Int).map J.Slot.val))), (p15, (J.Cel.lst ((s16.2 : List Int).map J.Slot.val)))]⟩ : J.Stt)) ho78 (J.ji_sides 2 (J.je_var 2 rfl) (J.je_var 2 rfl) rfl J.jo_none (J.jo_some J.je_int)) (fun _ _ _ _ g => ⟨(), J.le_fgt (sl := [(J.Slot.v (.ref p0)), (J.Slot.v (.ref p2)), (J.Slot.v (.ref p12)), J.Slot.any, J.Slot.any, J.Slot.any, J.Slot.any, J.Slot.any, J.Slot.any, J.Slot.any, J.Slot.any]) (cs := [(p2, (J.Cel.lst [(J.Slot.v (.ref p3)), (J.Slot.val (x1.2.1 : Int)), (J.Slot.val (x11.2.1 : Int))])), (p3, (J.Cel.lst ((x11.2.2 : List Int).map J.Slot.val))), (p12, (J.Cel.lst [J.Slot.say (J.Td p14 [(J.Slot.val (x13.1.2 : Int))]), J.Slot.say (J.Td p15 [(J.Slot.val (x13.2.2 : Int))])])), (p14, (J.Cel.lst (((x13.1.1, x13.2.1).1 : List Int).map J.Slot.val))), (p15, (J.Cel.lst (((x13.1.1, x13.2.1).2 : List Int).map J.Slot.val)))]) 5 (.keep (.keep (.keep (.drop (.drop (.drop (.drop (.drop (.drop (.drop (.drop .nil))))))))))) rfl _ _ _ _ g⟩) (fun _ _ => trivial) (fun q17 s16 x18 => (by cases x18 <;> exact J.jg_td (J.jgs_cons (J.jg_name 3 (hN := hN)) (J.jgs_cons (J.jg_name 4 (hN := hN)) J.jgs_nil)))) (fun q17 s16 x18 o9 _ h => ?_) (fun r e v H hv => by subst e; cases h; exact hv) (fun s77 e q17 => ?_)
  · unfold m_law_b5 at h
    cases x18
    · rw [if_neg (by decide)] at h
      change J.JS _ _ (⟨[(J.Slot.v (.ref p0)), (J.Slot.v (.ref p2)), (J.Slot.v (.ref p12)), (J.Slot.v (.ref p14)), (J.Slot.val (x13.1.2 : Int)), J.Slot.any, J.Slot.any, J.Slot.any, J.Slot.any, J.Slot.any, J.Slot.any], [(p2, (J.Cel.lst [(J.Slot.v (.ref p3)), (J.Slot.val (x1.2.1 : Int)), (J.Slot.val (x11.2.1 : Int))])), (p3, (J.Cel.lst ((x11.2.2 : List Int).map J.Slot.val))), (p12, (J.Cel.lst [J.Slot.say (J.Td p14 [(J.Slot.val (x13.1.2 : Int))]), J.Slot.say (J.Td p15 [(J.Slot.val (x13.2.2 : Int))])])), (p14, (J.Cel.lst ((s16.1 : List Int).map J.Slot.val))), (p15, (J.Cel.lst ((s16.2 : List Int).map J.Slot.val)))]⟩ : J.Stt) _ _
      refine J.js_set (hN := hN) 5 (J.je_frL (J.je_list (ss := (s16.1 : List Int).map J.Slot.val) W.l_list (J.je_var 3 rfl) (J.lv_cell' 3 rfl))) ?_
      obtain ⟨x19, hx19, h⟩ := J.bndE h
      refine J.js_set (hN := hN) 6 (J.je_frL (J.je_call (f := F_law_due K) (ok_law_due W) hr (by decide) W.g__law_due W.F__law_due.kp W.b__law_due (J.ja_cons (J.je_var 3 rfl) (J.ja_cons (J.je_var 4 rfl) J.ja_nil)) (g := (⟨p14, x13.1.2, s16.1, x19⟩ : G_law_due)) hx19 rfl (.cons 3 rfl (by nofun) .nil) (.cons 3 rfl .nil) (hG := fun G e => trivial))) ?_
      change J.JS _ _ (⟨[(J.Slot.v (.ref p0)), (J.Slot.v (.ref p2)), (J.Slot.v (.ref p12)), (J.Slot.v (.ref p14)), (J.Slot.val (x13.1.2 : Int)), (J.Slot.val (s16.1 : (List Int))), (J.Slot.val (x19 : (List (List Int)))), J.Slot.any, J.Slot.any, J.Slot.any, J.Slot.any], [(p2, (J.Cel.lst [(J.Slot.v (.ref p3)), (J.Slot.val (x1.2.1 : Int)), (J.Slot.val (x11.2.1 : Int))])), (p3, (J.Cel.lst ((x11.2.2 : List Int).map J.Slot.val))), (p12, (J.Cel.lst [J.Slot.say (J.Td p14 [(J.Slot.val (x13.1.2 : Int))]), J.Slot.say (J.Td p15 [(J.Slot.val (x13.2.2 : Int))])])), (p14, (J.Cel.lst ((s16.1 : List Int).map J.Slot.val))), (p15, (J.Cel.lst ((s16.2 : List Int).map J.Slot.val)))]⟩ : J.Stt) _ _
      obtain ⟨x20, hx20, h⟩ := J.bndE h
      refine J.js_new (hN := hN) 7 (J.je_call (f := F_working K) (ok_working W) hr (by decide) W.g_working W.F_working.kp W.b_working (J.ja_cons (J.je_var 3 rfl) (J.ja_cons (J.je_var 4 rfl) J.ja_nil)) (g := (⟨p14, x13.1.2, s16.1, x20⟩ : G_working)) hx20 rfl (.cons 3 rfl (by nofun) .nil) (.cons 3 rfl .nil) (hG := fun G e => trivial)) fun p21 => ?_
      change J.JS _ _ (⟨[(J.Slot.v (.ref p0)), (J.Slot.v (.ref p2)), (J.Slot.v (.ref p12)), (J.Slot.v (.ref p14)), (J.Slot.val (x13.1.2 : Int)), (J.Slot.val (s16.1 : (List Int))), (J.Slot.val (x19 : (List (List Int)))), (J.Slot.v (.ref p21)), J.Slot.any, J.Slot.any, J.Slot.any], [(p2, (J.Cel.lst [(J.Slot.v (.ref p3)), (J.Slot.val (x1.2.1 : Int)), (J.Slot.val (x11.2.1 : Int))])), (p3, (J.Cel.lst ((x11.2.2 : List Int).map J.Slot.val))), (p12, (J.Cel.lst [J.Slot.say (J.Td p14 [(J.Slot.val (x13.1.2 : Int))]), J.Slot.say (J.Td p15 [(J.Slot.val (x13.2.2 : Int))])])), (p14, (J.Cel.lst ((s16.1 : List Int).map J.Slot.val))), (p15, (J.Cel.lst ((s16.2 : List Int).map J.Slot.val))), (p21, (J.mlC J.intsC (x20 : List (List Int))))]⟩ : J.Stt) _ _
      obtain ⟨x22, hx22, h⟩ := J.bndE h
      obtain ⟨x23, hx23, h⟩ := J.bndE h
      refine J.js_if (J.JW.t (J.jw_or (J.jt_ne' (t := (x22 : PySem.Str)) (r := (x23 : PySem.Str)) hr (J.je_lend (t := (x22 : PySem.Str)) 5 7 rfl rfl (J.flat_str _) (fun B9 => (J.je_repr hgd hr W.l_repr (J.je_var 7 rfl) J.rw_val hx22))) (J.je_repr hgd hr W.l_repr (J.je_var 6 rfl) J.rw_val hx23) J.dv_val J.dv_val) fun _ => (J.jw_or1 (J.jt_ne' (t := (s16.1 : (List Int))) (r := (s16.1 : (List Int))) hr (J.je_var 3 rfl) (J.je_var 5 rfl) (J.dv_cellL 3 rfl) J.dv_val)))) (fun hp => ?_) (fun hp => ?_)
      · replace h := J.ifT hp h
        have h9 := Option.some.inj h
        subst h9
        exact J.js_ret J.je_bl fun v H o => ⟨_, rfl, J.Out.take 0 o⟩
      · replace h := J.ifF hp h
        refine J.js_end ?_
        change J.JS _ _ (⟨[(J.Slot.v (.ref p0)), (J.Slot.v (.ref p2)), (J.Slot.v (.ref p12)), (J.Slot.v (.ref p14)), (J.Slot.val (x13.1.2 : Int)), (J.Slot.val (s16.1 : (List Int))), (J.Slot.val (x19 : (List (List Int)))), (J.Slot.v (.ref p21)), J.Slot.any, J.Slot.any, J.Slot.any], [(p2, (J.Cel.lst [(J.Slot.v (.ref p3)), (J.Slot.val (x1.2.1 : Int)), (J.Slot.val (x11.2.1 : Int))])), (p3, (J.Cel.lst ((x11.2.2 : List Int).map J.Slot.val))), (p12, (J.Cel.lst [J.Slot.say (J.Td p14 [(J.Slot.val (x13.1.2 : Int))]), J.Slot.say (J.Td p15 [(J.Slot.val (x13.2.2 : Int))])])), (p14, (J.Cel.lst ((s16.1 : List Int).map J.Slot.val))), (p15, (J.Cel.lst ((s16.2 : List Int).map J.Slot.val))), (p21, (J.mlC J.intsC (x20 : List (List Int))))]⟩ : J.Stt) _ _
        obtain ⟨x24, hx24, h⟩ := J.bndE h
        obtain ⟨o39, ho39, h⟩ := J.bndE h
        refine J.js_forLE (π := Unit) (Rr := fun r => J.Out B (R_law r) (C_law p0 a0 r)) (f := m_law_b2 x19) (Sf := fun (q26 : Unit) (s25 : (List (List Int))) => (⟨[(J.Slot.v (.ref p0)), (J.Slot.v (.ref p2)), (J.Slot.v (.ref p12)), (J.Slot.v (.ref p14)), (J.Slot.val (x13.1.2 : Int)), (J.Slot.val (s16.1 : (List Int))), (J.Slot.val (x19 : (List (List Int)))), (J.Slot.v (.ref p21)), J.Slot.any, J.Slot.any, J.Slot.any], [(p2, (J.Cel.lst [(J.Slot.v (.ref p3)), (J.Slot.val (x1.2.1 : Int)), (J.Slot.val (x11.2.1 : Int))])), (p3, (J.Cel.lst ((x11.2.2 : List Int).map J.Slot.val))), (p12, (J.Cel.lst [J.Slot.say (J.Td p14 [(J.Slot.val (x13.1.2 : Int))]), J.Slot.say (J.Td p15 [(J.Slot.val (x13.2.2 : Int))])])), (p14, (J.Cel.lst ((s16.1 : List Int).map J.Slot.val))), (p15, (J.Cel.lst ((s16.2 : List Int).map J.Slot.val))), (p21, (J.mlC J.intsC (s25 : List (List Int))))]⟩ : J.Stt)) (Sb := fun (q26 : Unit) (s25 : (List (List Int))) (x27 : Int) => (⟨[(J.Slot.v (.ref p0)), (J.Slot.v (.ref p2)), (J.Slot.v (.ref p12)), (J.Slot.v (.ref p14)), (J.Slot.val (x13.1.2 : Int)), (J.Slot.val (s16.1 : (List Int))), (J.Slot.val (x19 : (List (List Int)))), (J.Slot.v (.ref p21)), (J.Slot.val (x27 : Int)), J.Slot.any, J.Slot.any], [(p2, (J.Cel.lst [(J.Slot.v (.ref p3)), (J.Slot.val (x1.2.1 : Int)), (J.Slot.val (x11.2.1 : Int))])), (p3, (J.Cel.lst ((x11.2.2 : List Int).map J.Slot.val))), (p12, (J.Cel.lst [J.Slot.say (J.Td p14 [(J.Slot.val (x13.1.2 : Int))]), J.Slot.say (J.Td p15 [(J.Slot.val (x13.2.2 : Int))])])), (p14, (J.Cel.lst ((s16.1 : List Int).map J.Slot.val))), (p15, (J.Cel.lst ((s16.2 : List Int).map J.Slot.val))), (p21, (J.mlC J.intsC (s25 : List (List Int))))]⟩ : J.Stt)) ho39 (J.ji_rngG W.l_range (J.je_lend (t := (((x20).length : Int) : Int)) 5 7 rfl rfl (J.flat_int _) (fun B9 => (J.je_len (n := "len") (xs := x20) W.l_len (J.je_var 7 rfl) J.lv_val))) hx24) (fun _ _ _ _ g => ⟨(), J.le_fgt (sl := [(J.Slot.v (.ref p0)), (J.Slot.v (.ref p2)), (J.Slot.v (.ref p12)), (J.Slot.v (.ref p14)), (J.Slot.val (x13.1.2 : Int)), (J.Slot.val (s16.1 : (List Int))), (J.Slot.val (x19 : (List (List Int)))), (J.Slot.v (.ref p21)), J.Slot.any, J.Slot.any, J.Slot.any]) (cs := [(p2, (J.Cel.lst [(J.Slot.v (.ref p3)), (J.Slot.val (x1.2.1 : Int)), (J.Slot.val (x11.2.1 : Int))])), (p3, (J.Cel.lst ((x11.2.2 : List Int).map J.Slot.val))), (p12, (J.Cel.lst [J.Slot.say (J.Td p14 [(J.Slot.val (x13.1.2 : Int))]), J.Slot.say (J.Td p15 [(J.Slot.val (x13.2.2 : Int))])])), (p14, (J.Cel.lst ((s16.1 : List Int).map J.Slot.val))), (p15, (J.Cel.lst ((s16.2 : List Int).map J.Slot.val))), (p21, (J.mlC J.intsC (x20 : List (List Int))))]) 6 (.keep (.keep (.keep (.keep (.keep (.keep (.keep (.keep (.drop (.drop (.drop .nil))))))))))) rfl _ _ _ _ g⟩) (fun _ _ => trivial) (fun q26 s25 x27 => (J.jg_name 8 (hN := hN))) (fun q26 s25 x27 o9 _ h => ?_) (fun r e v H hv => by subst e; cases h; exact ⟨_, rfl, hv⟩) (fun s38 e q26 => ?_)
        · unfold m_law_b2 at h
          change J.JS _ _ (⟨[(J.Slot.v (.ref p0)), (J.Slot.v (.ref p2)), (J.Slot.v (.ref p12)), (J.Slot.v (.ref p14)), (J.Slot.val (x13.1.2 : Int)), (J.Slot.val (s16.1 : (List Int))), (J.Slot.val (x19 : (List (List Int)))), (J.Slot.v (.ref p21)), (J.Slot.val (x27 : Int)), J.Slot.any, J.Slot.any], [(p2, (J.Cel.lst [(J.Slot.v (.ref p3)), (J.Slot.val (x1.2.1 : Int)), (J.Slot.val (x11.2.1 : Int))])), (p3, (J.Cel.lst ((x11.2.2 : List Int).map J.Slot.val))), (p12, (J.Cel.lst [J.Slot.say (J.Td p14 [(J.Slot.val (x13.1.2 : Int))]), J.Slot.say (J.Td p15 [(J.Slot.val (x13.2.2 : Int))])])), (p14, (J.Cel.lst ((s16.1 : List Int).map J.Slot.val))), (p15, (J.Cel.lst ((s16.2 : List Int).map J.Slot.val))), (p21, (J.mlC J.intsC (s25 : List (List Int))))]⟩ : J.Stt) _ _
          obtain ⟨x28, hx28, h⟩ := J.bndE h
          refine J.js_openM (f := J.intsC) (xs := (s25 : List (List Int))) 5 x27 hx28 rfl fun p29 => ?_
          change J.JS _ _ (⟨[(J.Slot.v (.ref p0)), (J.Slot.v (.ref p2)), (J.Slot.v (.ref p12)), (J.Slot.v (.ref p14)), (J.Slot.val (x13.1.2 : Int)), (J.Slot.val (s16.1 : (List Int))), (J.Slot.val (x19 : (List (List Int)))), (J.Slot.v (.ref p21)), (J.Slot.val (x27 : Int)), J.Slot.any, J.Slot.any], [(p2, (J.Cel.lst [(J.Slot.v (.ref p3)), (J.Slot.val (x1.2.1 : Int)), (J.Slot.val (x11.2.1 : Int))])), (p3, (J.Cel.lst ((x11.2.2 : List Int).map J.Slot.val))), (p12, (J.Cel.lst [J.Slot.say (J.Td p14 [(J.Slot.val (x13.1.2 : Int))]), J.Slot.say (J.Td p15 [(J.Slot.val (x13.2.2 : Int))])])), (p14, (J.Cel.lst ((s16.1 : List Int).map J.Slot.val))), (p15, (J.Cel.lst ((s16.2 : List Int).map J.Slot.val))), (p21, (J.mlH J.intsC (s25 : List (List Int)) (J.ixn (s25 : List (List Int)).length x27) p29)), (p29, (J.Cel.lst ((x28 : List Int).map J.Slot.val)))]⟩ : J.Stt) _ _
          obtain ⟨x30, hx30, h⟩ := J.bndE h
          refine J.js_expr (J.je_appG (xs := x28) (t := (5 : Int)) 6 (J.je_ixM (f := J.intsC) (xs := (s25 : List (List Int))) 5 hx28 (J.je_var 7 rfl) (J.je_var 8 rfl) rfl) rfl J.je_int rfl hx30) ?_
          change J.JS _ _ (⟨[(J.Slot.v (.ref p0)), (J.Slot.v (.ref p2)), (J.Slot.v (.ref p12)), (J.Slot.v (.ref p14)), (J.Slot.val (x13.1.2 : Int)), (J.Slot.val (s16.1 : (List Int))), (J.Slot.val (x19 : (List (List Int)))), (J.Slot.v (.ref p21)), (J.Slot.val (x27 : Int)), J.Slot.any, J.Slot.any], [(p2, (J.Cel.lst [(J.Slot.v (.ref p3)), (J.Slot.val (x1.2.1 : Int)), (J.Slot.val (x11.2.1 : Int))])), (p3, (J.Cel.lst ((x11.2.2 : List Int).map J.Slot.val))), (p12, (J.Cel.lst [J.Slot.say (J.Td p14 [(J.Slot.val (x13.1.2 : Int))]), J.Slot.say (J.Td p15 [(J.Slot.val (x13.2.2 : Int))])])), (p14, (J.Cel.lst ((s16.1 : List Int).map J.Slot.val))), (p15, (J.Cel.lst ((s16.2 : List Int).map J.Slot.val))), (p21, (J.mlH J.intsC (s25 : List (List Int)) (J.ixn (s25 : List (List Int)).length x27) p29)), (p29, (J.Cel.lst ((x30 : List Int).map J.Slot.val)))]⟩ : J.Stt) _ _
          obtain ⟨x31, hx31, h⟩ := J.bndE h
          refine J.js_closeM (f := J.intsC) (xs := (s25 : List (List Int))) (ys := x31) (x := x30) 5 6 6 x27 hx31 rfl rfl (by decide) (fun _ => by nofun) ?_
          change J.JS _ _ (⟨[(J.Slot.v (.ref p0)), (J.Slot.v (.ref p2)), (J.Slot.v (.ref p12)), (J.Slot.v (.ref p14)), (J.Slot.val (x13.1.2 : Int)), (J.Slot.val (s16.1 : (List Int))), (J.Slot.val (x19 : (List (List Int)))), (J.Slot.v (.ref p21)), (J.Slot.val (x27 : Int)), J.Slot.any, J.Slot.any], [(p2, (J.Cel.lst [(J.Slot.v (.ref p3)), (J.Slot.val (x1.2.1 : Int)), (J.Slot.val (x11.2.1 : Int))])), (p3, (J.Cel.lst ((x11.2.2 : List Int).map J.Slot.val))), (p12, (J.Cel.lst [J.Slot.say (J.Td p14 [(J.Slot.val (x13.1.2 : Int))]), J.Slot.say (J.Td p15 [(J.Slot.val (x13.2.2 : Int))])])), (p14, (J.Cel.lst ((s16.1 : List Int).map J.Slot.val))), (p15, (J.Cel.lst ((s16.2 : List Int).map J.Slot.val))), (p21, (J.mlC J.intsC (x31 : List (List Int))))]⟩ : J.Stt) _ _
          obtain ⟨x37, hx37, h⟩ := J.bndE h
          refine J.js_if (J.JW.t (J.jw_orM hx37 (J.jt_lend 5 7 rfl rfl (fun B9 => (J.jt_ne' (t := ((J.slc x31 (some (x27 + 1)) none) : (List (List Int)))) (r := ((J.slc x19 (some (x27 + 1)) none) : (List (List Int)))) hr (J.je_slcv (xs := x31) (J.je_var 7 rfl) (J.jo_some (J.je_add (J.je_var 8 rfl) J.je_int)) J.jo_none J.lv_val) (J.je_slcv (xs := x19) (J.je_var 6 rfl) (J.jo_some (J.je_add (J.je_var 8 rfl) J.je_int)) J.jo_none J.lv_val) J.dv_ownL J.dv_ownL))) fun _ r h => by
      obtain ⟨x36, hx36, h⟩ := J.bndE h
      have h9 := Option.some.inj h
      subst h9
      exact (J.jw_or1 (J.jt_lend 5 7 rfl rfl (fun B9 => (J.jt_ne' (t := ((J.slc x31 none (some x27)) : (List (List Int)))) (r := (x36.1 : (List (List Int)))) hr (J.je_slcv (xs := x31) (J.je_var 7 rfl) J.jo_none (J.jo_some (J.je_var 8 rfl)) J.lv_val) (J.je_lc (f := m_law_c1) (el := J.Slot.val) (Sf := fun (s32 : Unit) => (⟨[(J.Slot.v (.ref p0)), (J.Slot.v (.ref p2)), (J.Slot.v (.ref p12)), (J.Slot.v (.ref p14)), (J.Slot.val (x13.1.2 : Int)), (J.Slot.val (s16.1 : (List Int))), (J.Slot.val (x19 : (List (List Int)))), (J.Slot.val (x31 : (List (List Int)))), (J.Slot.val (x27 : Int)), J.Slot.any, J.Slot.any], []⟩ : J.Stt)) (Sb := fun (s32 : Unit) (x34 : (List Int)) => (⟨[(J.Slot.v (.ref p0)), (J.Slot.v (.ref p2)), (J.Slot.v (.ref p12)), (J.Slot.v (.ref p14)), (J.Slot.val (x13.1.2 : Int)), (J.Slot.val (s16.1 : (List Int))), (J.Slot.val (x19 : (List (List Int)))), (J.Slot.val (x31 : (List (List Int)))), (J.Slot.val (x27 : Int)), J.Slot.any, (J.Slot.val (x34 : (List Int)))], []⟩ : J.Stt)) (s0 := ()) (own := [(("one" : PySem.Str), 10)]) (ws := [10]) (J.lcM_of hx36).2 (J.lcM_of hx36).1 hN (L2.blkOk_by (N := ["script", "bag", "sides", "line", "wide", "kept", "due", "found", "at", "k", "one"]) (sc := defScope s_law) (by decide +kernel)) (J.ji_own (xs := (J.slc x19 none (some x27))) (J.je_slcv (xs := x19) (J.je_var 6 rfl) J.jo_none (J.jo_some (J.je_var 8 rfl)) J.lv_val)) (J.le_fgt 0 (.keep (.keep (.keep (.keep (.keep (.keep (.keep (.keep (.keep (.drop (.drop .nil))))))))))) rfl) (fun _ => trivial) (fun _ => J.any_at rfl) (by decide) (fun s32 x34 => fun s1 H1 C1 cl1 fp1 =>  J.inJG hN fun hN => (J.jg_name 10 (hN := hN))) (fun s32 x34 o sZ _ h => by
      unfold m_law_c1 at h
      obtain ⟨x35, hx35, h⟩ := J.bndE h
      obtain ⟨h8, h9⟩ := Prod.mk.inj (Option.some.inj h)
      subst h8
      subst h9
      exact ⟨true, _, (fun s1 H1 C1 cl1 fp1 =>  J.jts_nil), fun _ => ⟨_, _, rfl, (fun s1 H1 C1 cl1 fp1 =>  J.inJE hr hN fun hr hN => (J.je_frL (J.je_catG (xs := x34) (ys := ([5] : List Int)) (J.je_var 10 rfl) (J.je_lstv (xs := ([5] : List Int)) (J.ja_cons J.je_int J.ja_nil)) J.lh_val J.lh_own hx35))), (J.le_fgt 0 (.keep (.keep (.keep (.keep (.keep (.keep (.keep (.keep (.keep (.drop (.drop .nil))))))))))) rfl)⟩, nofun⟩)) J.dv_ownL J.dv_ownL)))))) (fun hp => ?_) (fun hp => ?_)
          · replace h := J.ifT hp h
            have h9 := Option.some.inj h
            subst h9
            exact J.js_ret J.je_bl fun v H o => ⟨_, rfl, J.Out.take 0 o⟩
          · replace h := J.ifF hp h
            refine J.js_end ?_
            change J.JS _ _ (⟨[(J.Slot.v (.ref p0)), (J.Slot.v (.ref p2)), (J.Slot.v (.ref p12)), (J.Slot.v (.ref p14)), (J.Slot.val (x13.1.2 : Int)), (J.Slot.val (s16.1 : (List Int))), (J.Slot.val (x19 : (List (List Int)))), (J.Slot.v (.ref p21)), (J.Slot.val (x27 : Int)), J.Slot.any, J.Slot.any], [(p2, (J.Cel.lst [(J.Slot.v (.ref p3)), (J.Slot.val (x1.2.1 : Int)), (J.Slot.val (x11.2.1 : Int))])), (p3, (J.Cel.lst ((x11.2.2 : List Int).map J.Slot.val))), (p12, (J.Cel.lst [J.Slot.say (J.Td p14 [(J.Slot.val (x13.1.2 : Int))]), J.Slot.say (J.Td p15 [(J.Slot.val (x13.2.2 : Int))])])), (p14, (J.Cel.lst ((s16.1 : List Int).map J.Slot.val))), (p15, (J.Cel.lst ((s16.2 : List Int).map J.Slot.val))), (p21, (J.mlC J.intsC (x31 : List (List Int))))]⟩ : J.Stt) _ _
            have h9 := Option.some.inj h
            subst h9
            exact J.js_nil fun T tv σ H g => ⟨_, rfl, (), J.le_fgt (sl := [(J.Slot.v (.ref p0)), (J.Slot.v (.ref p2)), (J.Slot.v (.ref p12)), (J.Slot.v (.ref p14)), (J.Slot.val (x13.1.2 : Int)), (J.Slot.val (s16.1 : (List Int))), (J.Slot.val (x19 : (List (List Int)))), (J.Slot.v (.ref p21)), J.Slot.any, J.Slot.any, J.Slot.any]) (cs := [(p2, (J.Cel.lst [(J.Slot.v (.ref p3)), (J.Slot.val (x1.2.1 : Int)), (J.Slot.val (x11.2.1 : Int))])), (p3, (J.Cel.lst ((x11.2.2 : List Int).map J.Slot.val))), (p12, (J.Cel.lst [J.Slot.say (J.Td p14 [(J.Slot.val (x13.1.2 : Int))]), J.Slot.say (J.Td p15 [(J.Slot.val (x13.2.2 : Int))])])), (p14, (J.Cel.lst ((s16.1 : List Int).map J.Slot.val))), (p15, (J.Cel.lst ((s16.2 : List Int).map J.Slot.val))), (p21, (J.mlC J.intsC (x31 : List (List Int))))]) 6 (.keep (.keep (.keep (.keep (.keep (.keep (.keep (.keep (.drop (.drop (.drop .nil))))))))))) rfl _ _ _ _ g⟩
        · subst e
          try rw [Sum.elim_inl] at h
          change J.JS _ _ (⟨[(J.Slot.v (.ref p0)), (J.Slot.v (.ref p2)), (J.Slot.v (.ref p12)), (J.Slot.v (.ref p14)), (J.Slot.val (x13.1.2 : Int)), (J.Slot.val (s16.1 : (List Int))), (J.Slot.val (x19 : (List (List Int)))), (J.Slot.v (.ref p21)), J.Slot.any, J.Slot.any, J.Slot.any], [(p2, (J.Cel.lst [(J.Slot.v (.ref p3)), (J.Slot.val (x1.2.1 : Int)), (J.Slot.val (x11.2.1 : Int))])), (p3, (J.Cel.lst ((x11.2.2 : List Int).map J.Slot.val))), (p12, (J.Cel.lst [J.Slot.say (J.Td p14 [(J.Slot.val (x13.1.2 : Int))]), J.Slot.say (J.Td p15 [(J.Slot.val (x13.2.2 : Int))])])), (p14, (J.Cel.lst ((s16.1 : List Int).map J.Slot.val))), (p15, (J.Cel.lst ((s16.2 : List Int).map J.Slot.val))), (p21, (J.mlC J.intsC (s38 : List (List Int))))]⟩ : J.Stt) _ _
          obtain ⟨x40, hx40, h⟩ := J.bndE h
          refine J.js_expr (J.je_appMM (xss := s38) (ys := ([] : List Int)) (zs := x40) 5 (J.je_var 7 rfl) rfl (J.je_lstv (xs := ([] : List Int)) J.ja_nil) rfl hx40) ?_
          change J.JS _ _ (⟨[(J.Slot.v (.ref p0)), (J.Slot.v (.ref p2)), (J.Slot.v (.ref p12)), (J.Slot.v (.ref p14)), (J.Slot.val (x13.1.2 : Int)), (J.Slot.val (s16.1 : (List Int))), (J.Slot.val (x19 : (List (List Int)))), (J.Slot.v (.ref p21)), J.Slot.any, J.Slot.any, J.Slot.any], [(p2, (J.Cel.lst [(J.Slot.v (.ref p3)), (J.Slot.val (x1.2.1 : Int)), (J.Slot.val (x11.2.1 : Int))])), (p3, (J.Cel.lst ((x11.2.2 : List Int).map J.Slot.val))), (p12, (J.Cel.lst [J.Slot.say (J.Td p14 [(J.Slot.val (x13.1.2 : Int))]), J.Slot.say (J.Td p15 [(J.Slot.val (x13.2.2 : Int))])])), (p14, (J.Cel.lst ((s16.1 : List Int).map J.Slot.val))), (p15, (J.Cel.lst ((s16.2 : List Int).map J.Slot.val))), (p21, (J.mlC J.intsC (x40 : List (List Int))))]⟩ : J.Stt) _ _
          obtain ⟨x41, hx41, h⟩ := J.bndE h
          obtain ⟨x42, hx42, h⟩ := J.bndE h
          obtain ⟨x43, hx43, h⟩ := J.bndE h
          refine J.js_if (J.jt_ne' (t := (x42 : PySem.Str)) (r := (x43 : PySem.Str)) hr (J.je_repr hgd hr W.l_repr (J.je_frMM (J.je_callK (f := F_working K) (ok_working W) hr (by decide) W.g_working W.F_working.kp (kb_working_0 W) (J.jk_cons (J.je_var 4 rfl) (J.jk_cons (J.je_var 3 rfl) J.jk_nil)) (g := (⟨p14, x13.1.2, s16.1, x41⟩ : G_working)) hx41 rfl (fun {T} {σ} {vs} {tv} {H} hl h => by
      match vs, hl, h with
      | [v1, v0], _, h =>
        have h := J.Sta.rot (xs := [_]) (T := [] ++ T) (vs := [v1]) (u := v0) (tv := [] ++ tv) rfl h
        exact ⟨rfl, h⟩) (.cons 3 rfl (by nofun) .nil) (.cons 3 rfl .nil) (hG := fun G e => trivial))) J.rw_val hx42) (J.je_repr hgd hr W.l_repr (J.je_var 6 rfl) J.rw_val hx43) J.dv_val J.dv_val) (fun hp => ?_) (fun hp => ?_)
          · replace h := J.ifT hp h
            have h9 := Option.some.inj h
            subst h9
            exact J.js_ret J.je_bl fun v H o => ⟨_, rfl, J.Out.take 0 o⟩
          · replace h := J.ifF hp h
            refine J.js_end ?_
            change J.JS _ _ (⟨[(J.Slot.v (.ref p0)), (J.Slot.v (.ref p2)), (J.Slot.v (.ref p12)), (J.Slot.v (.ref p14)), (J.Slot.val (x13.1.2 : Int)), (J.Slot.val (s16.1 : (List Int))), (J.Slot.val (x19 : (List (List Int)))), (J.Slot.v (.ref p21)), J.Slot.any, J.Slot.any, J.Slot.any], [(p2, (J.Cel.lst [(J.Slot.v (.ref p3)), (J.Slot.val (x1.2.1 : Int)), (J.Slot.val (x11.2.1 : Int))])), (p3, (J.Cel.lst ((x11.2.2 : List Int).map J.Slot.val))), (p12, (J.Cel.lst [J.Slot.say (J.Td p14 [(J.Slot.val (x13.1.2 : Int))]), J.Slot.say (J.Td p15 [(J.Slot.val (x13.2.2 : Int))])])), (p14, (J.Cel.lst ((s16.1 : List Int).map J.Slot.val))), (p15, (J.Cel.lst ((s16.2 : List Int).map J.Slot.val))), (p21, (J.mlC J.intsC (x40 : List (List Int))))]⟩ : J.Stt) _ _
            refine J.js_expr (J.je_revG (xs := s16.1) 3 (J.je_var 3 rfl) rfl) ?_
            obtain ⟨x44, hx44, h⟩ := J.bndE h
            obtain ⟨x45, hx45, h⟩ := J.bndE h
            obtain ⟨x46, hx46, h⟩ := J.bndE h
            obtain ⟨x47, hx47, h⟩ := J.bndE h
            refine J.js_if (J.jt_ne' (t := (x45 : PySem.Str)) (r := (x47 : PySem.Str)) hr (J.je_repr hgd hr W.l_repr (J.je_frMM (J.je_call (f := F_working K) (ok_working W) hr (by decide) W.g_working W.F_working.kp W.b_working (J.ja_cons (J.je_var 3 rfl) (J.ja_cons (J.je_var 4 rfl) J.ja_nil)) (g := (⟨p14, x13.1.2, (s16.1).reverse, x44⟩ : G_working)) hx44 rfl (.cons 3 rfl (by nofun) .nil) (.cons 3 rfl .nil) (hG := fun G e => trivial))) J.rw_val hx45) (J.je_repr hgd hr W.l_repr (J.je_frL (J.je_call (f := F_law_due K) (ok_law_due W) hr (by decide) W.g__law_due W.F__law_due.kp W.b__law_due (J.ja_cons (J.je_var 3 rfl) (J.ja_cons (J.je_var 4 rfl) J.ja_nil)) (g := (⟨p14, x13.1.2, (s16.1).reverse, x46⟩ : G_law_due)) hx46 rfl (.cons 3 rfl (by nofun) .nil) (.cons 3 rfl .nil) (hG := fun G e => trivial))) J.rw_val hx47) J.dv_val J.dv_val) (fun hp => ?_) (fun hp => ?_)
            · replace h := J.ifT hp h
              change J.JS _ _ (⟨[(J.Slot.v (.ref p0)), (J.Slot.v (.ref p2)), (J.Slot.v (.ref p12)), (J.Slot.v (.ref p14)), (J.Slot.val (x13.1.2 : Int)), (J.Slot.val (s16.1 : (List Int))), (J.Slot.val (x19 : (List (List Int)))), (J.Slot.v (.ref p21)), J.Slot.any, J.Slot.any, J.Slot.any], [(p2, (J.Cel.lst [(J.Slot.v (.ref p3)), (J.Slot.val (x1.2.1 : Int)), (J.Slot.val (x11.2.1 : Int))])), (p3, (J.Cel.lst ((x11.2.2 : List Int).map J.Slot.val))), (p12, (J.Cel.lst [J.Slot.say (J.Td p14 [(J.Slot.val (x13.1.2 : Int))]), J.Slot.say (J.Td p15 [(J.Slot.val (x13.2.2 : Int))])])), (p14, (J.Cel.lst (((s16.1).reverse : List Int).map J.Slot.val))), (p15, (J.Cel.lst ((s16.2 : List Int).map J.Slot.val))), (p21, (J.mlC J.intsC (x40 : List (List Int))))]⟩ : J.Stt) _ _
              have h9 := Option.some.inj h
              subst h9
              exact J.js_ret J.je_bl fun v H o => ⟨_, rfl, J.Out.take 0 o⟩
            · replace h := J.ifF hp h
              change J.JS _ _ (⟨[(J.Slot.v (.ref p0)), (J.Slot.v (.ref p2)), (J.Slot.v (.ref p12)), (J.Slot.v (.ref p14)), (J.Slot.val (x13.1.2 : Int)), (J.Slot.val (s16.1 : (List Int))), (J.Slot.val (x19 : (List (List Int)))), (J.Slot.v (.ref p21)), J.Slot.any, J.Slot.any, J.Slot.any], [(p2, (J.Cel.lst [(J.Slot.v (.ref p3)), (J.Slot.val (x1.2.1 : Int)), (J.Slot.val (x11.2.1 : Int))])), (p3, (J.Cel.lst ((x11.2.2 : List Int).map J.Slot.val))), (p12, (J.Cel.lst [J.Slot.say (J.Td p14 [(J.Slot.val (x13.1.2 : Int))]), J.Slot.say (J.Td p15 [(J.Slot.val (x13.2.2 : Int))])])), (p14, (J.Cel.lst (((s16.1).reverse : List Int).map J.Slot.val))), (p15, (J.Cel.lst ((s16.2 : List Int).map J.Slot.val))), (p21, (J.mlC J.intsC (x40 : List (List Int))))]⟩ : J.Stt) _ _
              refine J.js_end ?_
              change J.JS _ _ (⟨[(J.Slot.v (.ref p0)), (J.Slot.v (.ref p2)), (J.Slot.v (.ref p12)), (J.Slot.v (.ref p14)), (J.Slot.val (x13.1.2 : Int)), (J.Slot.val (s16.1 : (List Int))), (J.Slot.val (x19 : (List (List Int)))), (J.Slot.v (.ref p21)), J.Slot.any, J.Slot.any, J.Slot.any], [(p2, (J.Cel.lst [(J.Slot.v (.ref p3)), (J.Slot.val (x1.2.1 : Int)), (J.Slot.val (x11.2.1 : Int))])), (p3, (J.Cel.lst ((x11.2.2 : List Int).map J.Slot.val))), (p12, (J.Cel.lst [J.Slot.say (J.Td p14 [(J.Slot.val (x13.1.2 : Int))]), J.Slot.say (J.Td p15 [(J.Slot.val (x13.2.2 : Int))])])), (p14, (J.Cel.lst (((s16.1).reverse : List Int).map J.Slot.val))), (p15, (J.Cel.lst ((s16.2 : List Int).map J.Slot.val))), (p21, (J.mlC J.intsC (x40 : List (List Int))))]⟩ : J.Stt) _ _
              have h9 := Option.some.inj h
              subst h9
              exact J.js_nil fun T tv σ H g => ⟨_, rfl, (), J.le_fgt (sl := [(J.Slot.v (.ref p0)), (J.Slot.v (.ref p2)), (J.Slot.v (.ref p12)), J.Slot.any, J.Slot.any, J.Slot.any, J.Slot.any, J.Slot.any, J.Slot.any, J.Slot.any, J.Slot.any]) (cs := [(p2, (J.Cel.lst [(J.Slot.v (.ref p3)), (J.Slot.val (x1.2.1 : Int)), (J.Slot.val (x11.2.1 : Int))])), (p3, (J.Cel.lst ((x11.2.2 : List Int).map J.Slot.val))), (p12, (J.Cel.lst [J.Slot.say (J.Td p14 [(J.Slot.val (x13.1.2 : Int))]), J.Slot.say (J.Td p15 [(J.Slot.val (x13.2.2 : Int))])])), (p14, (J.Cel.lst ((((s16.1).reverse, s16.2).1 : List Int).map J.Slot.val))), (p15, (J.Cel.lst ((((s16.1).reverse, s16.2).2 : List Int).map J.Slot.val)))]) 5 (.keep (.keep (.keep (.drop (.drop (.drop (.drop (.drop (.drop (.drop (.drop .nil))))))))))) rfl _ _ _ _ g⟩
    · rw [if_pos rfl] at h
      change J.JS _ _ (⟨[(J.Slot.v (.ref p0)), (J.Slot.v (.ref p2)), (J.Slot.v (.ref p12)), (J.Slot.v (.ref p15)), (J.Slot.val (x13.2.2 : Int)), J.Slot.any, J.Slot.any, J.Slot.any, J.Slot.any, J.Slot.any, J.Slot.any], [(p2, (J.Cel.lst [(J.Slot.v (.ref p3)), (J.Slot.val (x1.2.1 : Int)), (J.Slot.val (x11.2.1 : Int))])), (p3, (J.Cel.lst ((x11.2.2 : List Int).map J.Slot.val))), (p12, (J.Cel.lst [J.Slot.say (J.Td p14 [(J.Slot.val (x13.1.2 : Int))]), J.Slot.say (J.Td p15 [(J.Slot.val (x13.2.2 : Int))])])), (p14, (J.Cel.lst ((s16.1 : List Int).map J.Slot.val))), (p15, (J.Cel.lst ((s16.2 : List Int).map J.Slot.val)))]⟩ : J.Stt) _ _
      refine J.js_set (hN := hN) 5 (J.je_frL (J.je_list (ss := (s16.2 : List Int).map J.Slot.val) W.l_list (J.je_var 3 rfl) (J.lv_cell' 4 rfl))) ?_
      obtain ⟨x48, hx48, h⟩ := J.bndE h
      refine J.js_set (hN := hN) 6 (J.je_frL (J.je_call (f := F_law_due K) (ok_law_due W) hr (by decide) W.g__law_due W.F__law_due.kp W.b__law_due (J.ja_cons (J.je_var 3 rfl) (J.ja_cons (J.je_var 4 rfl) J.ja_nil)) (g := (⟨p15, x13.2.2, s16.2, x48⟩ : G_law_due)) hx48 rfl (.cons 4 rfl (by nofun) .nil) (.cons 4 rfl .nil) (hG := fun G e => trivial))) ?_
      change J.JS _ _ (⟨[(J.Slot.v (.ref p0)), (J.Slot.v (.ref p2)), (J.Slot.v (.ref p12)), (J.Slot.v (.ref p15)), (J.Slot.val (x13.2.2 : Int)), (J.Slot.val (s16.2 : (List Int))), (J.Slot.val (x48 : (List (List Int)))), J.Slot.any, J.Slot.any, J.Slot.any, J.Slot.any], [(p2, (J.Cel.lst [(J.Slot.v (.ref p3)), (J.Slot.val (x1.2.1 : Int)), (J.Slot.val (x11.2.1 : Int))])), (p3, (J.Cel.lst ((x11.2.2 : List Int).map J.Slot.val))), (p12, (J.Cel.lst [J.Slot.say (J.Td p14 [(J.Slot.val (x13.1.2 : Int))]), J.Slot.say (J.Td p15 [(J.Slot.val (x13.2.2 : Int))])])), (p14, (J.Cel.lst ((s16.1 : List Int).map J.Slot.val))), (p15, (J.Cel.lst ((s16.2 : List Int).map J.Slot.val)))]⟩ : J.Stt) _ _
      obtain ⟨x49, hx49, h⟩ := J.bndE h
      refine J.js_new (hN := hN) 7 (J.je_call (f := F_working K) (ok_working W) hr (by decide) W.g_working W.F_working.kp W.b_working (J.ja_cons (J.je_var 3 rfl) (J.ja_cons (J.je_var 4 rfl) J.ja_nil)) (g := (⟨p15, x13.2.2, s16.2, x49⟩ : G_working)) hx49 rfl (.cons 4 rfl (by nofun) .nil) (.cons 4 rfl .nil) (hG := fun G e => trivial)) fun p50 => ?_
      change J.JS _ _ (⟨[(J.Slot.v (.ref p0)), (J.Slot.v (.ref p2)), (J.Slot.v (.ref p12)), (J.Slot.v (.ref p15)), (J.Slot.val (x13.2.2 : Int)), (J.Slot.val (s16.2 : (List Int))), (J.Slot.val (x48 : (List (List Int)))), (J.Slot.v (.ref p50)), J.Slot.any, J.Slot.any, J.Slot.any], [(p2, (J.Cel.lst [(J.Slot.v (.ref p3)), (J.Slot.val (x1.2.1 : Int)), (J.Slot.val (x11.2.1 : Int))])), (p3, (J.Cel.lst ((x11.2.2 : List Int).map J.Slot.val))), (p12, (J.Cel.lst [J.Slot.say (J.Td p14 [(J.Slot.val (x13.1.2 : Int))]), J.Slot.say (J.Td p15 [(J.Slot.val (x13.2.2 : Int))])])), (p14, (J.Cel.lst ((s16.1 : List Int).map J.Slot.val))), (p15, (J.Cel.lst ((s16.2 : List Int).map J.Slot.val))), (p50, (J.mlC J.intsC (x49 : List (List Int))))]⟩ : J.Stt) _ _
      obtain ⟨x51, hx51, h⟩ := J.bndE h
      obtain ⟨x52, hx52, h⟩ := J.bndE h
      refine J.js_if (J.JW.t (J.jw_or (J.jt_ne' (t := (x51 : PySem.Str)) (r := (x52 : PySem.Str)) hr (J.je_lend (t := (x51 : PySem.Str)) 5 7 rfl rfl (J.flat_str _) (fun B9 => (J.je_repr hgd hr W.l_repr (J.je_var 7 rfl) J.rw_val hx51))) (J.je_repr hgd hr W.l_repr (J.je_var 6 rfl) J.rw_val hx52) J.dv_val J.dv_val) fun _ => (J.jw_or1 (J.jt_ne' (t := (s16.2 : (List Int))) (r := (s16.2 : (List Int))) hr (J.je_var 3 rfl) (J.je_var 5 rfl) (J.dv_cellL 4 rfl) J.dv_val)))) (fun hp => ?_) (fun hp => ?_)
      · replace h := J.ifT hp h
        have h9 := Option.some.inj h
        subst h9
        exact J.js_ret J.je_bl fun v H o => ⟨_, rfl, J.Out.take 0 o⟩
      · replace h := J.ifF hp h
        refine J.js_end ?_
        change J.JS _ _ (⟨[(J.Slot.v (.ref p0)), (J.Slot.v (.ref p2)), (J.Slot.v (.ref p12)), (J.Slot.v (.ref p15)), (J.Slot.val (x13.2.2 : Int)), (J.Slot.val (s16.2 : (List Int))), (J.Slot.val (x48 : (List (List Int)))), (J.Slot.v (.ref p50)), J.Slot.any, J.Slot.any, J.Slot.any], [(p2, (J.Cel.lst [(J.Slot.v (.ref p3)), (J.Slot.val (x1.2.1 : Int)), (J.Slot.val (x11.2.1 : Int))])), (p3, (J.Cel.lst ((x11.2.2 : List Int).map J.Slot.val))), (p12, (J.Cel.lst [J.Slot.say (J.Td p14 [(J.Slot.val (x13.1.2 : Int))]), J.Slot.say (J.Td p15 [(J.Slot.val (x13.2.2 : Int))])])), (p14, (J.Cel.lst ((s16.1 : List Int).map J.Slot.val))), (p15, (J.Cel.lst ((s16.2 : List Int).map J.Slot.val))), (p50, (J.mlC J.intsC (x49 : List (List Int))))]⟩ : J.Stt) _ _
        obtain ⟨x53, hx53, h⟩ := J.bndE h
        obtain ⟨o68, ho68, h⟩ := J.bndE h
        refine J.js_forLE (π := Unit) (Rr := fun r => J.Out B (R_law r) (C_law p0 a0 r)) (f := m_law_b4 x48) (Sf := fun (q55 : Unit) (s54 : (List (List Int))) => (⟨[(J.Slot.v (.ref p0)), (J.Slot.v (.ref p2)), (J.Slot.v (.ref p12)), (J.Slot.v (.ref p15)), (J.Slot.val (x13.2.2 : Int)), (J.Slot.val (s16.2 : (List Int))), (J.Slot.val (x48 : (List (List Int)))), (J.Slot.v (.ref p50)), J.Slot.any, J.Slot.any, J.Slot.any], [(p2, (J.Cel.lst [(J.Slot.v (.ref p3)), (J.Slot.val (x1.2.1 : Int)), (J.Slot.val (x11.2.1 : Int))])), (p3, (J.Cel.lst ((x11.2.2 : List Int).map J.Slot.val))), (p12, (J.Cel.lst [J.Slot.say (J.Td p14 [(J.Slot.val (x13.1.2 : Int))]), J.Slot.say (J.Td p15 [(J.Slot.val (x13.2.2 : Int))])])), (p14, (J.Cel.lst ((s16.1 : List Int).map J.Slot.val))), (p15, (J.Cel.lst ((s16.2 : List Int).map J.Slot.val))), (p50, (J.mlC J.intsC (s54 : List (List Int))))]⟩ : J.Stt)) (Sb := fun (q55 : Unit) (s54 : (List (List Int))) (x56 : Int) => (⟨[(J.Slot.v (.ref p0)), (J.Slot.v (.ref p2)), (J.Slot.v (.ref p12)), (J.Slot.v (.ref p15)), (J.Slot.val (x13.2.2 : Int)), (J.Slot.val (s16.2 : (List Int))), (J.Slot.val (x48 : (List (List Int)))), (J.Slot.v (.ref p50)), (J.Slot.val (x56 : Int)), J.Slot.any, J.Slot.any], [(p2, (J.Cel.lst [(J.Slot.v (.ref p3)), (J.Slot.val (x1.2.1 : Int)), (J.Slot.val (x11.2.1 : Int))])), (p3, (J.Cel.lst ((x11.2.2 : List Int).map J.Slot.val))), (p12, (J.Cel.lst [J.Slot.say (J.Td p14 [(J.Slot.val (x13.1.2 : Int))]), J.Slot.say (J.Td p15 [(J.Slot.val (x13.2.2 : Int))])])), (p14, (J.Cel.lst ((s16.1 : List Int).map J.Slot.val))), (p15, (J.Cel.lst ((s16.2 : List Int).map J.Slot.val))), (p50, (J.mlC J.intsC (s54 : List (List Int))))]⟩ : J.Stt)) ho68 (J.ji_rngG W.l_range (J.je_lend (t := (((x49).length : Int) : Int)) 5 7 rfl rfl (J.flat_int _) (fun B9 => (J.je_len (n := "len") (xs := x49) W.l_len (J.je_var 7 rfl) J.lv_val))) hx53) (fun _ _ _ _ g => ⟨(), J.le_fgt (sl := [(J.Slot.v (.ref p0)), (J.Slot.v (.ref p2)), (J.Slot.v (.ref p12)), (J.Slot.v (.ref p15)), (J.Slot.val (x13.2.2 : Int)), (J.Slot.val (s16.2 : (List Int))), (J.Slot.val (x48 : (List (List Int)))), (J.Slot.v (.ref p50)), J.Slot.any, J.Slot.any, J.Slot.any]) (cs := [(p2, (J.Cel.lst [(J.Slot.v (.ref p3)), (J.Slot.val (x1.2.1 : Int)), (J.Slot.val (x11.2.1 : Int))])), (p3, (J.Cel.lst ((x11.2.2 : List Int).map J.Slot.val))), (p12, (J.Cel.lst [J.Slot.say (J.Td p14 [(J.Slot.val (x13.1.2 : Int))]), J.Slot.say (J.Td p15 [(J.Slot.val (x13.2.2 : Int))])])), (p14, (J.Cel.lst ((s16.1 : List Int).map J.Slot.val))), (p15, (J.Cel.lst ((s16.2 : List Int).map J.Slot.val))), (p50, (J.mlC J.intsC (x49 : List (List Int))))]) 6 (.keep (.keep (.keep (.keep (.keep (.keep (.keep (.keep (.drop (.drop (.drop .nil))))))))))) rfl _ _ _ _ g⟩) (fun _ _ => trivial) (fun q55 s54 x56 => (J.jg_name 8 (hN := hN))) (fun q55 s54 x56 o9 _ h => ?_) (fun r e v H hv => by subst e; cases h; exact ⟨_, rfl, hv⟩) (fun s67 e q55 => ?_)
        · unfold m_law_b4 at h
          change J.JS _ _ (⟨[(J.Slot.v (.ref p0)), (J.Slot.v (.ref p2)), (J.Slot.v (.ref p12)), (J.Slot.v (.ref p15)), (J.Slot.val (x13.2.2 : Int)), (J.Slot.val (s16.2 : (List Int))), (J.Slot.val (x48 : (List (List Int)))), (J.Slot.v (.ref p50)), (J.Slot.val (x56 : Int)), J.Slot.any, J.Slot.any], [(p2, (J.Cel.lst [(J.Slot.v (.ref p3)), (J.Slot.val (x1.2.1 : Int)), (J.Slot.val (x11.2.1 : Int))])), (p3, (J.Cel.lst ((x11.2.2 : List Int).map J.Slot.val))), (p12, (J.Cel.lst [J.Slot.say (J.Td p14 [(J.Slot.val (x13.1.2 : Int))]), J.Slot.say (J.Td p15 [(J.Slot.val (x13.2.2 : Int))])])), (p14, (J.Cel.lst ((s16.1 : List Int).map J.Slot.val))), (p15, (J.Cel.lst ((s16.2 : List Int).map J.Slot.val))), (p50, (J.mlC J.intsC (s54 : List (List Int))))]⟩ : J.Stt) _ _
          obtain ⟨x57, hx57, h⟩ := J.bndE h
          refine J.js_openM (f := J.intsC) (xs := (s54 : List (List Int))) 5 x56 hx57 rfl fun p58 => ?_
          change J.JS _ _ (⟨[(J.Slot.v (.ref p0)), (J.Slot.v (.ref p2)), (J.Slot.v (.ref p12)), (J.Slot.v (.ref p15)), (J.Slot.val (x13.2.2 : Int)), (J.Slot.val (s16.2 : (List Int))), (J.Slot.val (x48 : (List (List Int)))), (J.Slot.v (.ref p50)), (J.Slot.val (x56 : Int)), J.Slot.any, J.Slot.any], [(p2, (J.Cel.lst [(J.Slot.v (.ref p3)), (J.Slot.val (x1.2.1 : Int)), (J.Slot.val (x11.2.1 : Int))])), (p3, (J.Cel.lst ((x11.2.2 : List Int).map J.Slot.val))), (p12, (J.Cel.lst [J.Slot.say (J.Td p14 [(J.Slot.val (x13.1.2 : Int))]), J.Slot.say (J.Td p15 [(J.Slot.val (x13.2.2 : Int))])])), (p14, (J.Cel.lst ((s16.1 : List Int).map J.Slot.val))), (p15, (J.Cel.lst ((s16.2 : List Int).map J.Slot.val))), (p50, (J.mlH J.intsC (s54 : List (List Int)) (J.ixn (s54 : List (List Int)).length x56) p58)), (p58, (J.Cel.lst ((x57 : List Int).map J.Slot.val)))]⟩ : J.Stt) _ _
          obtain ⟨x59, hx59, h⟩ := J.bndE h
          refine J.js_expr (J.je_appG (xs := x57) (t := (5 : Int)) 6 (J.je_ixM (f := J.intsC) (xs := (s54 : List (List Int))) 5 hx57 (J.je_var 7 rfl) (J.je_var 8 rfl) rfl) rfl J.je_int rfl hx59) ?_
          change J.JS _ _ (⟨[(J.Slot.v (.ref p0)), (J.Slot.v (.ref p2)), (J.Slot.v (.ref p12)), (J.Slot.v (.ref p15)), (J.Slot.val (x13.2.2 : Int)), (J.Slot.val (s16.2 : (List Int))), (J.Slot.val (x48 : (List (List Int)))), (J.Slot.v (.ref p50)), (J.Slot.val (x56 : Int)), J.Slot.any, J.Slot.any], [(p2, (J.Cel.lst [(J.Slot.v (.ref p3)), (J.Slot.val (x1.2.1 : Int)), (J.Slot.val (x11.2.1 : Int))])), (p3, (J.Cel.lst ((x11.2.2 : List Int).map J.Slot.val))), (p12, (J.Cel.lst [J.Slot.say (J.Td p14 [(J.Slot.val (x13.1.2 : Int))]), J.Slot.say (J.Td p15 [(J.Slot.val (x13.2.2 : Int))])])), (p14, (J.Cel.lst ((s16.1 : List Int).map J.Slot.val))), (p15, (J.Cel.lst ((s16.2 : List Int).map J.Slot.val))), (p50, (J.mlH J.intsC (s54 : List (List Int)) (J.ixn (s54 : List (List Int)).length x56) p58)), (p58, (J.Cel.lst ((x59 : List Int).map J.Slot.val)))]⟩ : J.Stt) _ _
          obtain ⟨x60, hx60, h⟩ := J.bndE h
          refine J.js_closeM (f := J.intsC) (xs := (s54 : List (List Int))) (ys := x60) (x := x59) 5 6 6 x56 hx60 rfl rfl (by decide) (fun _ => by nofun) ?_
          change J.JS _ _ (⟨[(J.Slot.v (.ref p0)), (J.Slot.v (.ref p2)), (J.Slot.v (.ref p12)), (J.Slot.v (.ref p15)), (J.Slot.val (x13.2.2 : Int)), (J.Slot.val (s16.2 : (List Int))), (J.Slot.val (x48 : (List (List Int)))), (J.Slot.v (.ref p50)), (J.Slot.val (x56 : Int)), J.Slot.any, J.Slot.any], [(p2, (J.Cel.lst [(J.Slot.v (.ref p3)), (J.Slot.val (x1.2.1 : Int)), (J.Slot.val (x11.2.1 : Int))])), (p3, (J.Cel.lst ((x11.2.2 : List Int).map J.Slot.val))), (p12, (J.Cel.lst [J.Slot.say (J.Td p14 [(J.Slot.val (x13.1.2 : Int))]), J.Slot.say (J.Td p15 [(J.Slot.val (x13.2.2 : Int))])])), (p14, (J.Cel.lst ((s16.1 : List Int).map J.Slot.val))), (p15, (J.Cel.lst ((s16.2 : List Int).map J.Slot.val))), (p50, (J.mlC J.intsC (x60 : List (List Int))))]⟩ : J.Stt) _ _
          obtain ⟨x66, hx66, h⟩ := J.bndE h
          refine J.js_if (J.JW.t (J.jw_orM hx66 (J.jt_lend 5 7 rfl rfl (fun B9 => (J.jt_ne' (t := ((J.slc x60 (some (x56 + 1)) none) : (List (List Int)))) (r := ((J.slc x48 (some (x56 + 1)) none) : (List (List Int)))) hr (J.je_slcv (xs := x60) (J.je_var 7 rfl) (J.jo_some (J.je_add (J.je_var 8 rfl) J.je_int)) J.jo_none J.lv_val) (J.je_slcv (xs := x48) (J.je_var 6 rfl) (J.jo_some (J.je_add (J.je_var 8 rfl) J.je_int)) J.jo_none J.lv_val) J.dv_ownL J.dv_ownL))) fun _ r h => by
      obtain ⟨x65, hx65, h⟩ := J.bndE h
      have h9 := Option.some.inj h
      subst h9
      exact (J.jw_or1 (J.jt_lend 5 7 rfl rfl (fun B9 => (J.jt_ne' (t := ((J.slc x60 none (some x56)) : (List (List Int)))) (r := (x65.1 : (List (List Int)))) hr (J.je_slcv (xs := x60) (J.je_var 7 rfl) J.jo_none (J.jo_some (J.je_var 8 rfl)) J.lv_val) (J.je_lc (f := m_law_c3) (el := J.Slot.val) (Sf := fun (s61 : Unit) => (⟨[(J.Slot.v (.ref p0)), (J.Slot.v (.ref p2)), (J.Slot.v (.ref p12)), (J.Slot.v (.ref p15)), (J.Slot.val (x13.2.2 : Int)), (J.Slot.val (s16.2 : (List Int))), (J.Slot.val (x48 : (List (List Int)))), (J.Slot.val (x60 : (List (List Int)))), (J.Slot.val (x56 : Int)), J.Slot.any, J.Slot.any], []⟩ : J.Stt)) (Sb := fun (s61 : Unit) (x63 : (List Int)) => (⟨[(J.Slot.v (.ref p0)), (J.Slot.v (.ref p2)), (J.Slot.v (.ref p12)), (J.Slot.v (.ref p15)), (J.Slot.val (x13.2.2 : Int)), (J.Slot.val (s16.2 : (List Int))), (J.Slot.val (x48 : (List (List Int)))), (J.Slot.val (x60 : (List (List Int)))), (J.Slot.val (x56 : Int)), J.Slot.any, (J.Slot.val (x63 : (List Int)))], []⟩ : J.Stt)) (s0 := ()) (own := [(("one" : PySem.Str), 10)]) (ws := [10]) (J.lcM_of hx65).2 (J.lcM_of hx65).1 hN (L2.blkOk_by (N := ["script", "bag", "sides", "line", "wide", "kept", "due", "found", "at", "k", "one"]) (sc := defScope s_law) (by decide +kernel)) (J.ji_own (xs := (J.slc x48 none (some x56))) (J.je_slcv (xs := x48) (J.je_var 6 rfl) J.jo_none (J.jo_some (J.je_var 8 rfl)) J.lv_val)) (J.le_fgt 0 (.keep (.keep (.keep (.keep (.keep (.keep (.keep (.keep (.keep (.drop (.drop .nil))))))))))) rfl) (fun _ => trivial) (fun _ => J.any_at rfl) (by decide) (fun s61 x63 => fun s1 H1 C1 cl1 fp1 =>  J.inJG hN fun hN => (J.jg_name 10 (hN := hN))) (fun s61 x63 o sZ _ h => by
      unfold m_law_c3 at h
      obtain ⟨x64, hx64, h⟩ := J.bndE h
      obtain ⟨h8, h9⟩ := Prod.mk.inj (Option.some.inj h)
      subst h8
      subst h9
      exact ⟨true, _, (fun s1 H1 C1 cl1 fp1 =>  J.jts_nil), fun _ => ⟨_, _, rfl, (fun s1 H1 C1 cl1 fp1 =>  J.inJE hr hN fun hr hN => (J.je_frL (J.je_catG (xs := x63) (ys := ([5] : List Int)) (J.je_var 10 rfl) (J.je_lstv (xs := ([5] : List Int)) (J.ja_cons J.je_int J.ja_nil)) J.lh_val J.lh_own hx64))), (J.le_fgt 0 (.keep (.keep (.keep (.keep (.keep (.keep (.keep (.keep (.keep (.drop (.drop .nil))))))))))) rfl)⟩, nofun⟩)) J.dv_ownL J.dv_ownL)))))) (fun hp => ?_) (fun hp => ?_)
          · replace h := J.ifT hp h
            have h9 := Option.some.inj h
            subst h9
            exact J.js_ret J.je_bl fun v H o => ⟨_, rfl, J.Out.take 0 o⟩
          · replace h := J.ifF hp h
            refine J.js_end ?_
            change J.JS _ _ (⟨[(J.Slot.v (.ref p0)), (J.Slot.v (.ref p2)), (J.Slot.v (.ref p12)), (J.Slot.v (.ref p15)), (J.Slot.val (x13.2.2 : Int)), (J.Slot.val (s16.2 : (List Int))), (J.Slot.val (x48 : (List (List Int)))), (J.Slot.v (.ref p50)), (J.Slot.val (x56 : Int)), J.Slot.any, J.Slot.any], [(p2, (J.Cel.lst [(J.Slot.v (.ref p3)), (J.Slot.val (x1.2.1 : Int)), (J.Slot.val (x11.2.1 : Int))])), (p3, (J.Cel.lst ((x11.2.2 : List Int).map J.Slot.val))), (p12, (J.Cel.lst [J.Slot.say (J.Td p14 [(J.Slot.val (x13.1.2 : Int))]), J.Slot.say (J.Td p15 [(J.Slot.val (x13.2.2 : Int))])])), (p14, (J.Cel.lst ((s16.1 : List Int).map J.Slot.val))), (p15, (J.Cel.lst ((s16.2 : List Int).map J.Slot.val))), (p50, (J.mlC J.intsC (x60 : List (List Int))))]⟩ : J.Stt) _ _
            have h9 := Option.some.inj h
            subst h9
            exact J.js_nil fun T tv σ H g => ⟨_, rfl, (), J.le_fgt (sl := [(J.Slot.v (.ref p0)), (J.Slot.v (.ref p2)), (J.Slot.v (.ref p12)), (J.Slot.v (.ref p15)), (J.Slot.val (x13.2.2 : Int)), (J.Slot.val (s16.2 : (List Int))), (J.Slot.val (x48 : (List (List Int)))), (J.Slot.v (.ref p50)), J.Slot.any, J.Slot.any, J.Slot.any]) (cs := [(p2, (J.Cel.lst [(J.Slot.v (.ref p3)), (J.Slot.val (x1.2.1 : Int)), (J.Slot.val (x11.2.1 : Int))])), (p3, (J.Cel.lst ((x11.2.2 : List Int).map J.Slot.val))), (p12, (J.Cel.lst [J.Slot.say (J.Td p14 [(J.Slot.val (x13.1.2 : Int))]), J.Slot.say (J.Td p15 [(J.Slot.val (x13.2.2 : Int))])])), (p14, (J.Cel.lst ((s16.1 : List Int).map J.Slot.val))), (p15, (J.Cel.lst ((s16.2 : List Int).map J.Slot.val))), (p50, (J.mlC J.intsC (x60 : List (List Int))))]) 6 (.keep (.keep (.keep (.keep (.keep (.keep (.keep (.keep (.drop (.drop (.drop .nil))))))))))) rfl _ _ _ _ g⟩
        · subst e
          try rw [Sum.elim_inl] at h
          change J.JS _ _ (⟨[(J.Slot.v (.ref p0)), (J.Slot.v (.ref p2)), (J.Slot.v (.ref p12)), (J.Slot.v (.ref p15)), (J.Slot.val (x13.2.2 : Int)), (J.Slot.val (s16.2 : (List Int))), (J.Slot.val (x48 : (List (List Int)))), (J.Slot.v (.ref p50)), J.Slot.any, J.Slot.any, J.Slot.any], [(p2, (J.Cel.lst [(J.Slot.v (.ref p3)), (J.Slot.val (x1.2.1 : Int)), (J.Slot.val (x11.2.1 : Int))])), (p3, (J.Cel.lst ((x11.2.2 : List Int).map J.Slot.val))), (p12, (J.Cel.lst [J.Slot.say (J.Td p14 [(J.Slot.val (x13.1.2 : Int))]), J.Slot.say (J.Td p15 [(J.Slot.val (x13.2.2 : Int))])])), (p14, (J.Cel.lst ((s16.1 : List Int).map J.Slot.val))), (p15, (J.Cel.lst ((s16.2 : List Int).map J.Slot.val))), (p50, (J.mlC J.intsC (s67 : List (List Int))))]⟩ : J.Stt) _ _
          obtain ⟨x69, hx69, h⟩ := J.bndE h
          refine J.js_expr (J.je_appMM (xss := s67) (ys := ([] : List Int)) (zs := x69) 5 (J.je_var 7 rfl) rfl (J.je_lstv (xs := ([] : List Int)) J.ja_nil) rfl hx69) ?_
          change J.JS _ _ (⟨[(J.Slot.v (.ref p0)), (J.Slot.v (.ref p2)), (J.Slot.v (.ref p12)), (J.Slot.v (.ref p15)), (J.Slot.val (x13.2.2 : Int)), (J.Slot.val (s16.2 : (List Int))), (J.Slot.val (x48 : (List (List Int)))), (J.Slot.v (.ref p50)), J.Slot.any, J.Slot.any, J.Slot.any], [(p2, (J.Cel.lst [(J.Slot.v (.ref p3)), (J.Slot.val (x1.2.1 : Int)), (J.Slot.val (x11.2.1 : Int))])), (p3, (J.Cel.lst ((x11.2.2 : List Int).map J.Slot.val))), (p12, (J.Cel.lst [J.Slot.say (J.Td p14 [(J.Slot.val (x13.1.2 : Int))]), J.Slot.say (J.Td p15 [(J.Slot.val (x13.2.2 : Int))])])), (p14, (J.Cel.lst ((s16.1 : List Int).map J.Slot.val))), (p15, (J.Cel.lst ((s16.2 : List Int).map J.Slot.val))), (p50, (J.mlC J.intsC (x69 : List (List Int))))]⟩ : J.Stt) _ _
          obtain ⟨x70, hx70, h⟩ := J.bndE h
          obtain ⟨x71, hx71, h⟩ := J.bndE h
          obtain ⟨x72, hx72, h⟩ := J.bndE h
          refine J.js_if (J.jt_ne' (t := (x71 : PySem.Str)) (r := (x72 : PySem.Str)) hr (J.je_repr hgd hr W.l_repr (J.je_frMM (J.je_callK (f := F_working K) (ok_working W) hr (by decide) W.g_working W.F_working.kp (kb_working_0 W) (J.jk_cons (J.je_var 4 rfl) (J.jk_cons (J.je_var 3 rfl) J.jk_nil)) (g := (⟨p15, x13.2.2, s16.2, x70⟩ : G_working)) hx70 rfl (fun {T} {σ} {vs} {tv} {H} hl h => by
      match vs, hl, h with
      | [v1, v0], _, h =>
        have h := J.Sta.rot (xs := [_]) (T := [] ++ T) (vs := [v1]) (u := v0) (tv := [] ++ tv) rfl h
        exact ⟨rfl, h⟩) (.cons 4 rfl (by nofun) .nil) (.cons 4 rfl .nil) (hG := fun G e => trivial))) J.rw_val hx71) (J.je_repr hgd hr W.l_repr (J.je_var 6 rfl) J.rw_val hx72) J.dv_val J.dv_val) (fun hp => ?_) (fun hp => ?_)
          · replace h := J.ifT hp h
            have h9 := Option.some.inj h
            subst h9
            exact J.js_ret J.je_bl fun v H o => ⟨_, rfl, J.Out.take 0 o⟩
          · replace h := J.ifF hp h
            refine J.js_end ?_
            change J.JS _ _ (⟨[(J.Slot.v (.ref p0)), (J.Slot.v (.ref p2)), (J.Slot.v (.ref p12)), (J.Slot.v (.ref p15)), (J.Slot.val (x13.2.2 : Int)), (J.Slot.val (s16.2 : (List Int))), (J.Slot.val (x48 : (List (List Int)))), (J.Slot.v (.ref p50)), J.Slot.any, J.Slot.any, J.Slot.any], [(p2, (J.Cel.lst [(J.Slot.v (.ref p3)), (J.Slot.val (x1.2.1 : Int)), (J.Slot.val (x11.2.1 : Int))])), (p3, (J.Cel.lst ((x11.2.2 : List Int).map J.Slot.val))), (p12, (J.Cel.lst [J.Slot.say (J.Td p14 [(J.Slot.val (x13.1.2 : Int))]), J.Slot.say (J.Td p15 [(J.Slot.val (x13.2.2 : Int))])])), (p14, (J.Cel.lst ((s16.1 : List Int).map J.Slot.val))), (p15, (J.Cel.lst ((s16.2 : List Int).map J.Slot.val))), (p50, (J.mlC J.intsC (x69 : List (List Int))))]⟩ : J.Stt) _ _
            refine J.js_expr (J.je_revG (xs := s16.2) 4 (J.je_var 3 rfl) rfl) ?_
            obtain ⟨x73, hx73, h⟩ := J.bndE h
            obtain ⟨x74, hx74, h⟩ := J.bndE h
            obtain ⟨x75, hx75, h⟩ := J.bndE h
            obtain ⟨x76, hx76, h⟩ := J.bndE h
            refine J.js_if (J.jt_ne' (t := (x74 : PySem.Str)) (r := (x76 : PySem.Str)) hr (J.je_repr hgd hr W.l_repr (J.je_frMM (J.je_call (f := F_working K) (ok_working W) hr (by decide) W.g_working W.F_working.kp W.b_working (J.ja_cons (J.je_var 3 rfl) (J.ja_cons (J.je_var 4 rfl) J.ja_nil)) (g := (⟨p15, x13.2.2, (s16.2).reverse, x73⟩ : G_working)) hx73 rfl (.cons 4 rfl (by nofun) .nil) (.cons 4 rfl .nil) (hG := fun G e => trivial))) J.rw_val hx74) (J.je_repr hgd hr W.l_repr (J.je_frL (J.je_call (f := F_law_due K) (ok_law_due W) hr (by decide) W.g__law_due W.F__law_due.kp W.b__law_due (J.ja_cons (J.je_var 3 rfl) (J.ja_cons (J.je_var 4 rfl) J.ja_nil)) (g := (⟨p15, x13.2.2, (s16.2).reverse, x75⟩ : G_law_due)) hx75 rfl (.cons 4 rfl (by nofun) .nil) (.cons 4 rfl .nil) (hG := fun G e => trivial))) J.rw_val hx76) J.dv_val J.dv_val) (fun hp => ?_) (fun hp => ?_)
            · replace h := J.ifT hp h
              change J.JS _ _ (⟨[(J.Slot.v (.ref p0)), (J.Slot.v (.ref p2)), (J.Slot.v (.ref p12)), (J.Slot.v (.ref p15)), (J.Slot.val (x13.2.2 : Int)), (J.Slot.val (s16.2 : (List Int))), (J.Slot.val (x48 : (List (List Int)))), (J.Slot.v (.ref p50)), J.Slot.any, J.Slot.any, J.Slot.any], [(p2, (J.Cel.lst [(J.Slot.v (.ref p3)), (J.Slot.val (x1.2.1 : Int)), (J.Slot.val (x11.2.1 : Int))])), (p3, (J.Cel.lst ((x11.2.2 : List Int).map J.Slot.val))), (p12, (J.Cel.lst [J.Slot.say (J.Td p14 [(J.Slot.val (x13.1.2 : Int))]), J.Slot.say (J.Td p15 [(J.Slot.val (x13.2.2 : Int))])])), (p14, (J.Cel.lst ((s16.1 : List Int).map J.Slot.val))), (p15, (J.Cel.lst (((s16.2).reverse : List Int).map J.Slot.val))), (p50, (J.mlC J.intsC (x69 : List (List Int))))]⟩ : J.Stt) _ _
              have h9 := Option.some.inj h
              subst h9
              exact J.js_ret J.je_bl fun v H o => ⟨_, rfl, J.Out.take 0 o⟩
            · replace h := J.ifF hp h
              change J.JS _ _ (⟨[(J.Slot.v (.ref p0)), (J.Slot.v (.ref p2)), (J.Slot.v (.ref p12)), (J.Slot.v (.ref p15)), (J.Slot.val (x13.2.2 : Int)), (J.Slot.val (s16.2 : (List Int))), (J.Slot.val (x48 : (List (List Int)))), (J.Slot.v (.ref p50)), J.Slot.any, J.Slot.any, J.Slot.any], [(p2, (J.Cel.lst [(J.Slot.v (.ref p3)), (J.Slot.val (x1.2.1 : Int)), (J.Slot.val (x11.2.1 : Int))])), (p3, (J.Cel.lst ((x11.2.2 : List Int).map J.Slot.val))), (p12, (J.Cel.lst [J.Slot.say (J.Td p14 [(J.Slot.val (x13.1.2 : Int))]), J.Slot.say (J.Td p15 [(J.Slot.val (x13.2.2 : Int))])])), (p14, (J.Cel.lst ((s16.1 : List Int).map J.Slot.val))), (p15, (J.Cel.lst (((s16.2).reverse : List Int).map J.Slot.val))), (p50, (J.mlC J.intsC (x69 : List (List Int))))]⟩ : J.Stt) _ _
              refine J.js_end ?_
              change J.JS _ _ (⟨[(J.Slot.v (.ref p0)), (J.Slot.v (.ref p2)), (J.Slot.v (.ref p12)), (J.Slot.v (.ref p15)), (J.Slot.val (x13.2.2 : Int)), (J.Slot.val (s16.2 : (List Int))), (J.Slot.val (x48 : (List (List Int)))), (J.Slot.v (.ref p50)), J.Slot.any, J.Slot.any, J.Slot.any], [(p2, (J.Cel.lst [(J.Slot.v (.ref p3)), (J.Slot.val (x1.2.1 : Int)), (J.Slot.val (x11.2.1 : Int))])), (p3, (J.Cel.lst ((x11.2.2 : List Int).map J.Slot.val))), (p12, (J.Cel.lst [J.Slot.say (J.Td p14 [(J.Slot.val (x13.1.2 : Int))]), J.Slot.say (J.Td p15 [(J.Slot.val (x13.2.2 : Int))])])), (p14, (J.Cel.lst ((s16.1 : List Int).map J.Slot.val))), (p15, (J.Cel.lst (((s16.2).reverse : List Int).map J.Slot.val))), (p50, (J.mlC J.intsC (x69 : List (List Int))))]⟩ : J.Stt) _ _
              have h9 := Option.some.inj h
              subst h9
              exact J.js_nil fun T tv σ H g => ⟨_, rfl, (), J.le_fgt (sl := [(J.Slot.v (.ref p0)), (J.Slot.v (.ref p2)), (J.Slot.v (.ref p12)), J.Slot.any, J.Slot.any, J.Slot.any, J.Slot.any, J.Slot.any, J.Slot.any, J.Slot.any, J.Slot.any]) (cs := [(p2, (J.Cel.lst [(J.Slot.v (.ref p3)), (J.Slot.val (x1.2.1 : Int)), (J.Slot.val (x11.2.1 : Int))])), (p3, (J.Cel.lst ((x11.2.2 : List Int).map J.Slot.val))), (p12, (J.Cel.lst [J.Slot.say (J.Td p14 [(J.Slot.val (x13.1.2 : Int))]), J.Slot.say (J.Td p15 [(J.Slot.val (x13.2.2 : Int))])])), (p14, (J.Cel.lst (((s16.1, (s16.2).reverse).1 : List Int).map J.Slot.val))), (p15, (J.Cel.lst (((s16.1, (s16.2).reverse).2 : List Int).map J.Slot.val)))]) 5 (.keep (.keep (.keep (.drop (.drop (.drop (.drop (.drop (.drop (.drop (.drop .nil))))))))))) rfl _ _ _ _ g⟩
  · subst e
    try rw [Sum.elim_inl] at h
    change J.JS _ _ (⟨[(J.Slot.v (.ref p0)), (J.Slot.v (.ref p2)), (J.Slot.v (.ref p12)), J.Slot.any, J.Slot.any, J.Slot.any, J.Slot.any, J.Slot.any, J.Slot.any, J.Slot.any, J.Slot.any], [(p2, (J.Cel.lst [(J.Slot.v (.ref p3)), (J.Slot.val (x1.2.1 : Int)), (J.Slot.val (x11.2.1 : Int))])), (p3, (J.Cel.lst ((x11.2.2 : List Int).map J.Slot.val))), (p12, (J.Cel.lst [J.Slot.say (J.Td p14 [(J.Slot.val (x13.1.2 : Int))]), J.Slot.say (J.Td p15 [(J.Slot.val (x13.2.2 : Int))])])), (p14, (J.Cel.lst ((s77.1 : List Int).map J.Slot.val))), (p15, (J.Cel.lst ((s77.2 : List Int).map J.Slot.val)))]⟩ : J.Stt) _ _
    have h9 := Option.some.inj h
    subst h9
    exact J.js_ret J.je_bl fun v H o => J.Out.take 0 o
end
end Gk22
namespace J
universe u w
/-! ### plain Lean: what is told by some -/
def Tot {α : Type u} (m : Option α) (P : α → Prop) : Prop := ∃ r, m = some r ∧ P r
theorem tot_some {α : Type u} {x : α} {P : α → Prop} (h : P x) : Tot (some x) P := ⟨x, rfl, h⟩
theorem tot_bind {α : Type u} {β : Type w} {m : Option α} {f : α → Option β} {P : α → Prop} {Q : β → Prop} (h : Tot m P) (k : ∀ x, P x → Tot (f x) Q) : Tot (m.bind f) Q := by
  obtain ⟨r, rfl, hr⟩ := h
  exact k r hr
theorem tot_let {α : Type u} {β : Type w} {x : α} {f : α → Option β} {Q : β → Prop} (h : Tot (f x) Q) : Tot ((some x).bind f) Q := h
theorem tot_ite {α : Type u} {c : Bool} {a b : Option α} {P : α → Prop} (h1 : c = true → Tot a P) (h2 : c = false → Tot b P) : Tot (if c = true then a else b) P := by
  cases c with
  | true => exact h1 rfl
  | false => exact h2 rfl
theorem cmpM_cons {ι α β : Type} {f : ι → α → Option (Option β × ι)} {x : α} {xs : List α} {s : ι} : cmpM f (x :: xs) s = (f s x).bind fun r => (cmpM f xs r.2).bind fun q => some ((match r.1 with | some y => y :: q.1 | none => q.1), q.2) := by
  show Option.bind (f s x) _ = _
  cases f s x with
  | none => rfl
  | some r =>
    obtain ⟨o, s'⟩ := r
    show Option.bind (cmpM f xs s') _ = Option.bind (cmpM f xs s') _
    cases cmpM f xs s' with
    | none => rfl
    | some q =>
      obtain ⟨ys, s2⟩ := q
      cases o <;> rfl
theorem cmpM_fm {α β : Type} {f : Unit → α → Option (Option β × Unit)} {g : α → Option β} : ∀ {xs : List α}, (∀ x ∈ xs, f () x = some (g x, ())) → cmpM f xs () = some (xs.filterMap g, ())
  | [], _ => rfl
  | x :: xs, h => by
    rw [cmpM_cons, h x List.mem_cons_self]
    show (cmpM f xs ()).bind _ = _
    rw [cmpM_fm fun y hy => h y (List.mem_cons_of_mem _ hy), List.filterMap_cons]
    cases e : g x with
    | none => simp [e]
    | some y => simp [e]
theorem lcM_fm {α β : Type} {f : Unit → α → Option (Option β × Unit)} {g : α → Option β} {xs : List α} (h : ∀ x ∈ xs, f () x = some (g x, ())) (hl : xs.length ≤ 16777216) : lcM f xs () = some (xs.filterMap g, ()) := by
  unfold lcM
  rw [if_pos hl, cmpM_fm h]
theorem lcM_map {α β : Type} {f : Unit → α → Option (Option β × Unit)} {g : α → β} {xs : List α} (h : ∀ x ∈ xs, f () x = some (some (g x), ())) (hl : xs.length ≤ 16777216) : lcM f xs () = some (xs.map g, ()) := by
  rw [lcM_fm (g := fun x => some (g x)) h hl]
  congr 2
  induction xs with
  | nil => rfl
  | cons x xs ih => rw [List.filterMap_cons]; simp
theorem lcM_filter {α : Type} {f : Unit → α → Option (Option α × Unit)} {p : α → Bool} {xs : List α} (h : ∀ x ∈ xs, f () x = some (if p x = true then some x else none, ())) (hl : xs.length ≤ 16777216) : lcM f xs () = some (xs.filter p, ()) := by
  rw [lcM_fm (g := fun x => if p x = true then some x else none) h hl]
  congr 2
  clear h hl
  induction xs with
  | nil => rfl
  | cons x xs ih =>
    rw [List.filterMap_cons, List.filter_cons, ← ih]
    by_cases e : p x = true
    · simp [e]
    · simp [e]
/-! the guarded ones -/
theorem psh_ok {α : Type u} {xs : List α} {x : α} (h : xs.length < 16777216) : psh xs x = some (xs ++ [x]) := if_pos h
theorem catG_ok {α : Type} {xs ys : List α} (h : xs.length + ys.length ≤ 16777216) : catG xs ys = some (xs ++ ys) := if_pos h
theorem mulG_ok {i j : Int} (h : (-(18446744073709551616) < i ∧ i < 18446744073709551616) ∨ (-(18446744073709551616) < j ∧ j < 18446744073709551616)) : mulG i j = some (i * j) := if_pos h
theorem divG_ok {i j : Int} (h : 0 < j ∧ j < 18446744073709551616) : divG i j = some (i / j) := if_pos h
theorem modG_ok {i j : Int} (h : 0 < j) : modG i j = some (i % j) := if_pos h
theorem powG_ok {i : Int} {n : Nat} (h : i.natAbs < 18446744073709551616) : powG i n = some (i ^ n) := if_pos h
theorem rngG_ok {j : Int} (h : -(4611686018427387904 : Int) ≤ j ∧ j < 4611686018427387904) : rngG j = some (rng 0 j.toNat) := if_pos h
theorem gx_nat {α : Type u} {xs : List α} {i : Int} (h0 : 0 ≤ i) : gx xs i = xs[i.toNat]? := if_pos h0
theorem gx_ok {α : Type u} {xs : List α} {i : Int} (h : -(xs.length : Int) ≤ i ∧ i < xs.length) : ∃ t ∈ xs, gx xs i = some t := by
  unfold gx
  by_cases h0 : 0 ≤ i
  · rw [if_pos h0]
    have hl : i.toNat < xs.length := by omega
    exact ⟨xs[i.toNat], List.getElem_mem hl, List.getElem?_eq_getElem hl⟩
  · rw [if_neg h0, if_pos h.1]
    have hl : (i + xs.length).toNat < xs.length := by omega
    exact ⟨xs[(i + xs.length).toNat], List.getElem_mem hl, List.getElem?_eq_getElem hl⟩
theorem rng_mem {lo : Int} {n : Nat} {x : Int} (h : x ∈ rng lo n) : lo ≤ x ∧ x < lo + n := by
  unfold rng at h
  obtain ⟨i, hi, rfl⟩ := List.mem_map.mp h
  have := List.mem_range.mp hi
  omega
/-! .. with how many turns there are -/
theorem tot_forB {ι α : Type} {f : ι → α → Option ι} (I : Nat → ι → Prop) (K : Nat) : ∀ {xs : List α} {k : Nat} {s : ι}, I k s → k + xs.length = K → (∀ k s x, x ∈ xs → k < K → I k s → Tot (f s x) (I (k + 1))) → Tot (forM f xs s) (I K)
  | [], k, s, h, e, _ => ⟨s, rfl, by have : k = K := e; subst this; exact h⟩
  | x :: xs, k, s, h, e, hf => by
    simp only [List.length_cons] at e
    show Tot ((f s x).bind (forM f xs)) _
    refine tot_bind (hf k s x List.mem_cons_self (by omega) h) fun s' h' => ?_
    exact tot_forB I K (xs := xs) h' (by omega) fun k s y hy => hf k s y (List.mem_cons_of_mem _ hy)
theorem tot_cmpB {ι α β : Type} {f : ι → α → Option (Option β × ι)} (I : Nat → ι → Prop) (R : α → β → Prop) (K : Nat) : ∀ {xs : List α} {k : Nat} {s : ι}, I k s → k + xs.length = K → (∀ k s x, x ∈ xs → k < K → I k s → Tot (f s x) fun r => (∃ y, r.1 = some y ∧ R x y) ∧ I (k + 1) r.2) → Tot (cmpM f xs s) fun r => r.1.length = xs.length ∧ (∀ y ∈ r.1, ∃ x ∈ xs, R x y) ∧ I K r.2
  | [], k, s, h, e, _ => ⟨([], s), rfl, rfl, (fun y hy => by simp at hy), by have : k = K := e; subst this; exact h⟩
  | x :: xs, k, s, h, e, hf => by
    simp only [List.length_cons] at e
    rw [cmpM_cons]
    refine tot_bind (hf k s x List.mem_cons_self (by omega) h) fun r hr => ?_
    obtain ⟨⟨y, hy, hR⟩, hI⟩ := hr
    refine tot_bind (tot_cmpB I R K (xs := xs) hI (by omega) fun k s y hy => hf k s y (List.mem_cons_of_mem _ hy)) fun q hq => ?_
    obtain ⟨h1, h2, h3⟩ := hq
    refine tot_some ⟨?_, ?_, h3⟩
    · rw [hy]
      simp [h1]
    · intro z hz
      rw [hy] at hz
      rcases List.mem_cons.mp hz with rfl | hz
      · exact ⟨x, List.mem_cons_self, hR⟩
      · obtain ⟨x', hx', hr⟩ := h2 z hz
        exact ⟨x', List.mem_cons_of_mem _ hx', hr⟩
theorem tot_lcB {ι α β : Type} {f : ι → α → Option (Option β × ι)} (I : Nat → ι → Prop) (R : α → β → Prop) {xs : List α} {s : ι} (h : I 0 s) (hl : xs.length ≤ 16777216) (hf : ∀ k s x, x ∈ xs → k < xs.length → I k s → Tot (f s x) fun r => (∃ y, r.1 = some y ∧ R x y) ∧ I (k + 1) r.2) : Tot (lcM f xs s) fun r => r.1.length = xs.length ∧ (∀ y ∈ r.1, ∃ x ∈ xs, R x y) ∧ I xs.length r.2 := by
  unfold lcM
  rw [if_pos hl]
  exact tot_cmpB I R xs.length h (Nat.zero_add _) hf
/-- a loop that never leaves early -/
theorem tot_forL {ι α ρ : Type} {f : ι → α → Option (Lp ι ρ)} (I : Nat → ι → Prop) (K : Nat) : ∀ {xs : List α} {k : Nat} {s : ι}, I k s → k + xs.length = K → (∀ k s x, x ∈ xs → k < K → I k s → Tot (f s x) fun o => ∃ s', o = .nx s' ∧ I (k + 1) s') → Tot (forL f xs s) fun o => ∃ s', o = .inl s' ∧ I K s'
  | [], k, s, h, e, _ => ⟨.inl s, rfl, s, rfl, by have : k = K := e; subst this; exact h⟩
  | x :: xs, k, s, h, e, hf => by
    simp only [List.length_cons] at e
    show Tot ((f s x).bind _) _
    refine tot_bind (hf k s x List.mem_cons_self (by omega) h) fun o ho => ?_
    obtain ⟨s', rfl, h'⟩ := ho
    exact tot_forL I K (xs := xs) h' (by omega) fun k s y hy => hf k s y (List.mem_cons_of_mem _ hy)
/-! the law's own call -/
section
open PySem L2
theorem sta0 {H : Hp} {a : Addr} : Sta ⟨H, H⟩ ⟨[], []⟩ [.v (.ref a)] [] [.ref a] H :=
  ⟨H, [], [], { tmp := .cons .v .nil, cel := .nil, slo := ⟨rfl, fun i s hs => by simp at hs⟩, nod := List.nodup_nil, fre := (fun a ha => nomatch ha), gro := Ex.refl H, new := fun a o h => .inl h, sub := Ex.refl H, frm := Ex.refl H }⟩
theorem out_true {B : Base} {cs : List (Addr × Cel)} {v : V} {H : Hp} (h : Out B (.val true) cs v H) : v = .bl true := Sta.bool h
end
end J
namespace J
/-! ### plain: sets, dicts, the farthest page -/
theorem setG_ok {xs : List Int} (h : xs.length ≤ 4000) : setG xs = some (sset xs) := if_pos h
theorem insS_len (x : Int) : ∀ l : List Int, (insS x l).length ≤ l.length + 1
  | [] => Nat.le_refl _
  | y :: ys => by
    unfold insS
    split
    · simp
    · split
      · simp
      · have := insS_len x ys
        simp only [List.length_cons]
        omega
theorem sset_len : ∀ l : List Int, (sset l).length ≤ l.length
  | [] => Nat.le_refl _
  | x :: l => by
    have h1 := insS_len x (sset l)
    have h2 := sset_len l
    show (insS x (sset l)).length ≤ _
    rw [List.length_cons]
    omega
theorem dget_put {β : Type} {m : List (Int × β)} {k q : Int} {v : β} : dget (dput m k v) q = if q = k then some v else dget m q := by
  unfold dput
  by_cases c : (m.any fun q => decide (q.1 = k)) = true
  · rw [if_pos c]
    induction m with
    | nil => simp at c
    | cons x m ih =>
      rw [List.map_cons]
      unfold dget
      rw [List.find?_cons, List.find?_cons]
      by_cases e : x.1 = k
      · rw [if_pos e]
        dsimp only
        by_cases e2 : q = k
        · rw [if_pos e2, decide_eq_true (by rw [e, e2])]
          rfl
        · rw [if_neg e2, decide_eq_false (show ¬ x.1 = q from fun h => e2 (h ▸ e))]
          dsimp only
          clear ih c
          congr 1
          induction m with
          | nil => rfl
          | cons y m ih =>
            rw [List.map_cons, List.find?_cons, List.find?_cons]
            by_cases e3 : y.1 = k
            · rw [if_pos e3]
              dsimp only
              rw [decide_eq_false (show ¬ y.1 = q from fun h => e2 (h ▸ e3))]
              exact ih
            · rw [if_neg e3]
              cases decide (y.1 = q)
              · exact ih
              · rfl
      · rw [if_neg e]
        have c2 : (m.any fun q => decide (q.1 = k)) = true := by
          rw [List.any_cons, decide_eq_false e, Bool.false_or] at c
          exact c
        by_cases e2 : x.1 = q
        · rw [decide_eq_true e2, if_neg (fun h => e (by rw [e2, h]))]
        · rw [decide_eq_false e2]
          exact ih c2
  · rw [if_neg c]
    have hn : ∀ x ∈ m, x.1 ≠ k := fun x hx e => c (List.any_eq_true.mpr ⟨x, hx, decide_eq_true e⟩)
    unfold dget
    rw [List.find?_append]
    by_cases e2 : q = k
    · rw [if_pos e2]
      have : m.find? (fun x => decide (x.1 = q)) = none := List.find?_eq_none.mpr fun x hx => by
        rw [decide_eq_true_eq, e2]
        exact hn x hx
      rw [this]
      subst e2
      simp
    · rw [if_neg e2]
      have : [(k, v)].find? (fun x => decide (x.1 = q)) = none := List.find?_eq_none.mpr fun x hx => by
        rw [List.mem_singleton.mp hx, decide_eq_true_eq]
        exact fun h => e2 h.symm
      rw [this]
      cases m.find? (fun x => decide (x.1 = q)) <;> rfl
theorem dput_len {β : Type} {m : List (Int × β)} {k : Int} {v : β} : (dput m k v).length ≤ m.length + 1 := by
  unfold dput
  split
  · rw [List.length_map]; omega
  · rw [List.length_append]; simp
theorem keys_iff {β : Type} {m : List (Int × β)} {q : Int} : q ∈ m.map (·.1) ↔ (dget m q).isSome = true := by
  unfold dget
  rw [Option.isSome_map, List.find?_isSome, List.mem_map]
  constructor
  · rintro ⟨x, h1, h2⟩; exact ⟨x, h1, decide_eq_true h2⟩
  · rintro ⟨x, h1, h2⟩; exact ⟨x, h1, of_decide_eq_true h2⟩
end J
namespace J
open PySem
/-! ### plain: short data has a text -/
structure OkD (n dp : Nat) (d : PyData) : Prop where
  sh : d.showable = true
  nd : d.hasDict = false
  lf : d.leavesShort 30 = true
  dp : d.depth ≤ dp
  bk : d.bulk ≤ n
theorem OkD.mono {n m k l : Nat} {d : PyData} (h : OkD n k d) (e : n ≤ m) (f : k ≤ l) : OkD m l d := ⟨h.sh, h.nd, h.lf, Nat.le_trans h.dp f, Nat.le_trans h.bk e⟩
theorem okd_int {i : Int} (h1 : -(10 ^ 20) < i) (h2 : i < 10 ^ 20) : OkD 0 0 (.int i) := by
  refine ⟨?_, rfl, ?_, Nat.le_refl _, Nat.le_refl _⟩
  · unfold PyData.showable
    refine decide_eq_true ?_
    by_cases z : i.natAbs = 0
    · rw [z]
      decide
    · have : i.natAbs < 2 ^ 1920 := Nat.lt_of_lt_of_le (m := 10 ^ 20) (by omega) (by decide +kernel)
      exact (Nat.log2_lt z).mpr this
  · have e := int_text_length_le10 (a := i) (k := 20) (by decide) (by omega)
    unfold PyData.leavesShort
    refine decide_eq_true ?_
    show (Str.ofString (toString i)).length ≤ 30
    rw [ofString_length]
    omega
theorem okd_all {n dp : Nat} : ∀ {xs : List PyData}, (∀ x ∈ xs, OkD n dp x) → PyData.showableAll xs = true ∧ PyData.hasDictAll xs = false ∧ PyData.leavesShortAll 30 xs = true ∧ PyData.depthAll xs ≤ dp ∧ PyData.bulkAll xs ≤ (n + 1) * xs.length
  | [], _ => ⟨rfl, rfl, rfl, Nat.zero_le _, Nat.zero_le _⟩
  | x :: xs, h => by
    obtain ⟨h1, h2, h3, h4, h5⟩ := okd_all (xs := xs) fun y hy => h y (List.mem_cons_of_mem _ hy)
    have hx := h x List.mem_cons_self
    refine ⟨?_, ?_, ?_, ?_, ?_⟩
    · show (x.showable && _) = true
      rw [hx.sh, h1]
      rfl
    · show (x.hasDict || _) = false
      rw [hx.nd, h2]
      rfl
    · show (x.leavesShort 30 && _) = true
      rw [hx.lf, h3]
      rfl
    · show max _ _ ≤ dp
      have := hx.dp
      omega
    · show x.bulk + 1 + PyData.bulkAll xs ≤ _
      have := hx.bk
      rw [List.length_cons, Nat.mul_add, Nat.mul_one]
      omega
theorem okd_list {n dp : Nat} {xs : List PyData} (h : ∀ x ∈ xs, OkD n dp x) : OkD ((n + 1) * xs.length) (dp + 1) (.list xs) := by
  obtain ⟨h1, h2, h3, h4, h5⟩ := okd_all h
  exact ⟨by simpa only [PyData.showable] using h1, by simpa only [PyData.hasDict] using h2, by simpa only [PyData.leavesShort] using h3, by simp only [PyData.depth]; omega, by simpa only [PyData.bulk] using h5⟩
theorem okd_list' {n dp N D : Nat} {xs : List PyData} (h : ∀ x ∈ xs, OkD n dp x) (hN : (n + 1) * xs.length ≤ N) (hD : dp + 1 ≤ D) : OkD N D (.list xs) := (okd_list h).mono hN hD
theorem reprG_ok {n dp : Nat} {d : PyData} (h : OkD n dp d) (hd : isDsp d = true) (hn : n ≤ 500000) (hp : dp ≤ 30) : reprG d = some d.shown := by
  have hl := PyData.shown_le_bulk 30 (by decide) d h.lf
  have hb := h.bk
  have hdp := h.dp
  have hs : d.shown.length ≤ sizeLine := by
    have : sizeLine = 16777216 := rfl
    omega
  unfold reprG
  rw [hd, h.sh, h.nd, decide_eq_true (show d.depth ≤ 30 by omega), decide_eq_true hs]
  rfl
end J
namespace J
open PySem
/-! ### plain: windows -/
/-- where it was last, of the requests from behind -/
def lr : List Int → Int → Option Int
  | [], _ => none
  | x :: r, p => if x = p then some (r.length : Int) else lr r p
theorem lr_bd {p i : Int} : ∀ {r : List Int}, lr r p = some i → 0 ≤ i ∧ i < r.length
  | [], h => nomatch h
  | x :: r, h => by
    unfold lr at h
    rw [List.length_cons]
    by_cases c : x = p
    · rw [if_pos c] at h
      cases h
      omega
    · rw [if_neg c] at h
      have := lr_bd h
      omega
theorem lr_take {p : Int} : ∀ {r : List Int} {w : Nat}, (∃ i, lr r p = some i ∧ (r.length : Int) - w ≤ i) ↔ p ∈ r.take w
  | [], w => by simp [lr]
  | x :: r, 0 => by
    simp only [List.take_zero, List.not_mem_nil, iff_false]
    rintro ⟨i, h1, h2⟩
    have := lr_bd h1
    omega
  | x :: r, w + 1 => by
    rw [List.take_succ_cons, List.mem_cons, List.length_cons]
    unfold lr
    by_cases c : x = p
    · rw [if_pos c]
      exact ⟨fun _ => .inl c.symm, fun _ => ⟨_, rfl, by omega⟩⟩
    · rw [if_neg c, ← lr_take (r := r) (w := w)]
      constructor
      · rintro ⟨i, h1, h2⟩
        exact .inr ⟨i, h1, by omega⟩
      · rintro (h | ⟨i, h1, h2⟩)
        · exact absurd h.symm c
        · exact ⟨i, h1, by omega⟩
/-- the dict of last requests -/
def DL (d : List (Int × Int)) (r : List Int) : Prop := ∀ p, dget d p = lr r p
theorem dl_put {d : List (Int × Int)} {r : List Int} {x : Int} (h : DL d r) : DL (dput d x (r.length : Int)) (x :: r) := fun p => by
  rw [dget_put, h p]
  show _ = if x = p then some (r.length : Int) else lr r p
  by_cases c : p = x
  · rw [if_pos c, if_pos c.symm]
  · rw [if_neg c, if_neg fun e => c e.symm]
def pg (xs : List Int) (k : Nat) : Int := xs.getD k 0
theorem pg_at {xs : List Int} {k : Nat} (h : k < xs.length) : xs[k]? = some (pg xs k) := by
  unfold pg
  rw [List.getD_eq_getElem?_getD, List.getElem?_eq_getElem h]
  rfl
theorem take_rev {xs : List Int} {k : Nat} (h : k < xs.length) : (xs.take (k + 1)).reverse = pg xs k :: (xs.take k).reverse := by
  rw [List.take_succ, pg_at h, List.reverse_append]
  rfl
/-- the requests of the window behind k of them -/
def wn (w : Nat) (xs : List Int) (k : Nat) : List Int := (xs.take k).reverse.take w
def bh (w : Nat) (xs : List Int) (k : Nat) : List Int := sset (wn w xs k)
theorem bh_mem {w : Nat} {xs : List Int} {k : Nat} {p : Int} : p ∈ bh w xs k ↔ p ∈ wn w xs k := sset_mem
theorem slc_mid {xs : List Int} {lo hi : Nat} (h1 : lo ≤ hi) (h2 : hi ≤ xs.length) : slc xs (some (lo : Int)) (some (hi : Int)) = (xs.take hi).drop lo := by
  have e1 : sx xs.length xs.length (some (hi : Int)) = hi := by
    show (if (hi : Int) < 0 then ((hi : Int) + (xs.length : Int)).toNat else min (hi : Int).toNat xs.length) = _
    rw [if_neg (by omega), Int.toNat_natCast]
    omega
  have e2 : sx xs.length 0 (some (lo : Int)) = lo := by
    show (if (lo : Int) < 0 then ((lo : Int) + (xs.length : Int)).toNat else min (lo : Int).toNat xs.length) = _
    rw [if_neg (by omega), Int.toNat_natCast]
    omega
  unfold slc
  rw [e1, e2]
  exact (List.drop_take (i := lo) (j := hi)).symm
theorem wn_slc {w : Nat} {xs : List Int} {k : Nat} (h : k ≤ xs.length) : (wn w xs k).reverse = (xs.take k).drop (k - w) := by
  unfold wn
  rw [List.take_reverse, List.reverse_reverse, List.length_take, Nat.min_eq_left h]
/-- what the program cuts, as a set -/
theorem bh_cut {w : Nat} {xs : List Int} {k : Nat} (h : k < xs.length) (hw : w ≤ 4000) : setG (slc xs (some (if (((k : Int) + 1) - (w : Int)) > 0 then (((k : Int) + 1) - (w : Int)) else 0)) (some ((k : Int) + 1))) = some (bh w xs (k + 1)) := by
  have e : (if (((k : Int) + 1) - (w : Int)) > 0 then (((k : Int) + 1) - (w : Int)) else 0) = ((k + 1 - w : Nat) : Int) := by
    split <;> omega
  have e2 : ((k : Int) + 1) = ((k + 1 : Nat) : Int) := by omega
  rw [e, e2, slc_mid (by omega) (by omega), ← wn_slc (by omega), setG_ok]
  · refine congrArg some (inc_ext (sset_inc _) (sset_inc _) fun q => ?_)
    rw [sset_mem, List.mem_reverse]
    exact bh_mem.symm
  · rw [List.length_reverse]
    unfold wn
    rw [List.length_take]
    omega
theorem forM_ix {ι α : Type} {f : ι → α → Option ι} (I : Nat → ι → Prop) : ∀ {xs : List α} {n : Nat} {s : ι}, I n s → (∀ k x s, xs[k]? = some x → I (n + k) s → ∃ s', f s x = some s' ∧ I (n + k + 1) s') → ∃ s', forM f xs s = some s' ∧ I (n + xs.length) s'
  | [], n, s, h, _ => ⟨s, rfl, h⟩
  | x :: xs, n, s, h, hf => by
    obtain ⟨s1, e1, h1⟩ := hf 0 x s rfl h
    obtain ⟨s2, e2, h2⟩ := forM_ix (f := f) I (xs := xs) (n := n + 1) h1 fun k y s hy hi => by
      have := hf (k + 1) y s hy (by rw [show n + (k + 1) = n + 1 + k by omega]; exact hi)
      rwa [show n + (k + 1) + 1 = n + 1 + k + 1 by omega] at this
    refine ⟨s2, ?_, by rw [List.length_cons, show n + (xs.length + 1) = n + 1 + xs.length by omega]; exact h2⟩
    show (f s x).bind _ = _
    rw [e1]
    exact e2
end J
namespace Gk22
open J
theorem slc_drop {α : Type} {xs : List α} {lo : Int} (h : 0 ≤ lo) : slc xs (some lo) none = xs.drop lo.toNat := by
  have e1 : sx xs.length xs.length none = xs.length := rfl
  have e2 : sx xs.length 0 (some lo) = min lo.toNat xs.length := by
    show (if lo < 0 then _ else _) = _
    rw [if_neg (by omega)]
  unfold slc
  rw [e1, e2]
  by_cases hl : lo.toNat ≤ xs.length
  · rw [Nat.min_eq_left hl]
    exact List.take_of_length_le (by rw [List.length_drop]; omega)
  · rw [Nat.min_eq_right (by omega), List.drop_eq_nil_of_le (Nat.le_refl _), List.drop_eq_nil_of_le (by omega)]
    simp
theorem slc_take {α : Type} {xs : List α} {hi : Int} (h : 0 ≤ hi) : slc xs none (some hi) = xs.take hi.toNat := by
  have e1 : sx xs.length xs.length (some hi) = min hi.toNat xs.length := by
    show (if hi < 0 then _ else _) = _
    rw [if_neg (by omega)]
  have e2 : sx xs.length 0 none = 0 := rfl
  unfold slc
  rw [e1, e2, List.drop_zero, Nat.sub_zero]
  by_cases hl : hi.toNat ≤ xs.length
  · rw [Nat.min_eq_left hl]
  · rw [Nat.min_eq_right (by omega), List.take_of_length_le (Nat.le_refl _), List.take_of_length_le (by omega)]
/-! ### the draws -/
structure Bg (N fold turn : Int) (great : List Int) : Prop where
  f0 : 0 ≤ fold
  f1 : fold < 2305843009213693951
  t0 : 0 ≤ turn
  t1 : turn ≤ N
  few : great.length ≤ 63
theorem Bg.mono {N M fold turn : Int} {great : List Int} (h : Bg N fold turn great) (e : N ≤ M) : Bg M fold turn great := ⟨h.f0, h.f1, h.t0, Int.le_trans h.t1 e, h.few⟩
theorem bag_ok {ns : List Int} (hl : ns.length ≤ 63) : Tot (m_law_bag ns) fun r => Bg 0 r.2.1 r.2.2 r.1 := by
  unfold m_law_bag
  refine tot_bind (tot_forB (I := fun k s => (0 ≤ s.2 ∧ s.2 < 2305843009213693951) ∧ s.1.length ≤ k) (K := ns.length) (k := 0) ⟨by dsimp only; omega, Nat.le_refl _⟩ (Nat.zero_add _) fun k s x _ hk hI => ?_) fun s hs => ?_
  · obtain ⟨h1, h2⟩ := hI
    unfold m_law_bag_b0
    refine tot_bind (P := fun _ => True) (tot_ite (fun _ => tot_some trivial) fun _ => tot_some trivial) fun z _ => ?_
    refine tot_let ?_
    refine tot_bind (P := fun l : List Int => l.length ≤ k + 1) (tot_ite (fun c => ?_) fun c => tot_some (by omega)) fun l hl => ?_
    · rw [psh_ok (by omega)]
      exact tot_some (by simp; omega)
    · exact tot_some ⟨⟨Int.emod_nonneg _ (by omega), Int.emod_lt_of_pos _ (by omega)⟩, hl⟩
  · obtain ⟨h1, h2⟩ := hs
    exact tot_some ⟨h1.1, h1.2, by dsimp only; omega, by dsimp only; omega, by dsimp only; omega⟩
theorem pop0 : ∀ (n : Nat) (g : List Int), g.length < n → g.length ≤ 63 → Tot (whileM m_law_draw_t0 m_law_draw_w1 n g) fun s => s.length ≤ 63
  | 0, g, h, _ => absurd h (by omega)
  | n + 1, [], _, h => ⟨[], rfl, h⟩
  | n + 1, x :: g, h1, h2 => by
    have e : m_law_draw_t0 (x :: g) = some (decide (x = 0)) := rfl
    show Tot ((m_law_draw_t0 (x :: g)).bind _) _
    rw [e]
    refine tot_let (tot_ite (fun c => ?_) fun c => tot_some h2)
    have e2 : m_law_draw_w1 (x :: g) = some g := by
      unfold m_law_draw_w1 popG
      rw [if_pos (by omega)]
      have : ixp (x :: g).length 0 = some 0 := by unfold ixp; simp
      rw [this]
      rfl
    rw [e2]
    simp only [List.length_cons] at h1 h2
    exact tot_let (pop0 n g (by omega) (by omega))
theorem draw_ok {N fold turn many : Int} {great : List Int} (h : Bg N fold turn great) (hm : 1 ≤ many ∧ many < 2000000000000) (hN : N < 1000000) : Tot (m_law_draw many great fold turn) fun r => (0 ≤ r.1 ∧ r.1 < many) ∧ Bg (N + 1) fold r.2.1 r.2.2 := by
  unfold m_law_draw
  obtain ⟨f0, f1, t0, t1, few⟩ := h
  refine tot_bind (pop0 _ great (by omega) few) fun s hs => ?_
  refine tot_ite (fun c => ?_) fun c => ?_
  · have hne : s ≠ [] := of_decide_eq_true c
    obtain ⟨x, s, rfl⟩ := List.exists_cons_of_ne_nil hne
    have e : gx (x :: s) 0 = some x := rfl
    rw [e, Option.bind_some, modG_ok (by omega), Option.bind_some, Option.bind_some, divG_ok (by omega), Option.bind_some]
    have : stx (x :: s) 0 (x / many) = some ((x / many) :: s) := by
      unfold stx
      have : ixp (x :: s).length 0 = some 0 := by unfold ixp; simp
      rw [this]
      rfl
    rw [this]
    exact tot_some ⟨⟨Int.emod_nonneg _ (by omega), Int.emod_lt_of_pos _ (by omega)⟩, f0, f1, by dsimp only; omega, by dsimp only; omega, hs⟩
  · rw [powG_ok (by omega), Option.bind_some, mulG_ok (.inl (by omega)), Option.bind_some, Option.bind_some]
    have hmod : ∀ z : Int, (z % (2305843009213693952 - 1)).natAbs < 18446744073709551616 := fun z => by
      have := Int.emod_nonneg z (b := 2305843009213693952 - 1) (by omega)
      have := Int.emod_lt_of_pos z (b := 2305843009213693952 - 1) (by omega)
      omega
    rw [powG_ok (hmod _), Option.bind_some, modG_ok (by omega)]
    exact tot_some ⟨⟨Int.emod_nonneg _ (by omega), Int.emod_lt_of_pos _ (by omega)⟩, f0, f1, by dsimp only; omega, by dsimp only; omega, hs⟩
theorem pages_ok {N fold turn : Int} {great : List Int} (h : Bg N fold turn great) (hN : N < 100000) : Tot (m_law_pages great fold turn) fun r => (r.1.length = 9 ∧ ∀ p ∈ r.1, 0 ≤ p ∧ p < 1000000000000) ∧ Bg (N + 2) fold r.2.1 r.2.2 := by
  unfold m_law_pages
  refine tot_bind (draw_ok h (by omega) (by omega)) fun r hr => ?_
  obtain ⟨⟨r0, r1⟩, hb⟩ := hr
  refine tot_let (tot_bind (draw_ok hb (by omega) (by omega)) fun q hq => ?_)
  obtain ⟨⟨q0, q1⟩, hb⟩ := hq
  rw [slc_drop q0, slc_take q0, catG_ok (by simp; omega)]
  refine tot_some ⟨⟨?_, fun p hp => ?_⟩, hb.mono (by omega)⟩
  · simp
    omega
  · have hp : p ∈ ([0, 1, 2, 9, 10, 100, (1000000000 - 1), 1000000000, (11 + r.1)] : List Int) := by
      rcases List.mem_append.mp hp with z | z
      · exact List.mem_of_mem_drop z
      · exact List.mem_of_mem_take z
    simp only [List.mem_cons, List.not_mem_nil, or_false] at hp
    rcases hp with rfl | rfl | rfl | rfl | rfl | rfl | rfl | rfl | rfl <;> omega
theorem line_ok {N fold turn a1 : Int} {great : List Int} (h : Bg N fold turn great) (ha : 0 ≤ a1 ∧ a1 ≤ 200) (hN : N < 100000) : Tot (m_law_line a1 great fold turn) fun r => (r.1.length ≤ 200 ∧ ∀ p ∈ r.1, 0 ≤ p ∧ p < 1000000000000) ∧ Bg (N + 1000) fold r.2.1 r.2.2 := by
  unfold m_law_line
  refine tot_bind (pages_ok h (by omega)) fun x1 h1 => ?_
  obtain ⟨⟨hp, hpb⟩, hb⟩ := h1
  refine tot_bind (draw_ok hb (by omega) (by omega)) fun x2 h2 => ?_
  obtain ⟨⟨r0, r1⟩, hb⟩ := h2
  refine tot_bind (draw_ok hb (by omega) (by omega)) fun x3 h3 => ?_
  obtain ⟨_, hb⟩ := h3
  refine tot_bind (P := fun s : Int × (List Int × (List Int × Int)) => (1 ≤ s.2.2.2 ∧ s.2.2.2 ≤ s.2.2.1.length ∧ s.2.2.1.length ≤ 100 ∧ ∀ p ∈ s.2.2.1, 0 ≤ p ∧ p < 1000000000000) ∧ Bg (N + 10) fold s.1 s.2.1) (tot_ite (fun c => ?_) fun c => tot_some ⟨⟨by dsimp only; omega, by dsimp only; omega, by dsimp only; omega, hpb⟩, hb.mono (by omega)⟩) fun s hs => ?_
  · refine tot_bind (draw_ok hb (by omega) (by omega)) fun x6 h6 => ?_
    obtain ⟨⟨v0, v1⟩, hb⟩ := h6
    refine tot_bind (draw_ok hb (by omega) (by omega)) fun x7 h7 => ?_
    obtain ⟨⟨q0, q1⟩, hb⟩ := h7
    refine tot_bind (draw_ok hb (by omega) (by omega)) fun x8 h8 => ?_
    obtain ⟨⟨u0, u1⟩, hb⟩ := h8
    rw [rngG_ok (by omega)]
    refine tot_let ?_
    rw [lcM_map (g := fun k : Int => x6.1 + (1 + x7.1) * k) (fun k hk => ?_) (by rw [rng_len]; omega)]
    · refine tot_let (tot_some ⟨?_, hb.mono (by omega)⟩)
      dsimp only
      rw [List.length_map, rng_len]
      refine ⟨by omega, by omega, by omega, fun p hp => ?_⟩
      obtain ⟨k, hk, rfl⟩ := List.mem_map.mp hp
      have hk := rng_mem hk
      have m1 : 0 ≤ (1 + x7.1) * k := Int.mul_nonneg (by omega) (by omega)
      have m2 : (1 + x7.1) * k ≤ 1000000 * 100 := Int.mul_le_mul (by omega) (by omega) (by omega) (by omega)
      omega
    · unfold m_law_line_c0
      rw [mulG_ok (.inl (by omega))]
      rfl
  · obtain ⟨⟨m1, m2, m3, m4⟩, hb⟩ := hs
    refine tot_bind (draw_ok hb (by omega) (by omega)) fun x15 h15 => ?_
    obtain ⟨⟨k0, k1⟩, hb⟩ := h15
    refine tot_bind (draw_ok hb (by omega) (by omega)) fun x17 h17 => ?_
    obtain ⟨⟨n0, n1⟩, hb⟩ := h17
    rw [rngG_ok (by omega)]
    refine tot_let ?_
    refine tot_bind (tot_forB (I := fun k z => Bg (N + 12 + 4 * k) fold z.1 z.2.1 ∧ z.2.2.length = k ∧ ∀ p ∈ z.2.2, 0 ≤ p ∧ p < 1000000000000) (K := x17.1.toNat) (k := 0) ⟨hb.mono (by omega), rfl, fun p h => nomatch h⟩ (by rw [rng_len]; omega) fun k z x hx hk2 hI => ?_) fun z hz => ?_
    · obtain ⟨hb, hk, hkb⟩ := hI
      have hx2 := rng_mem hx
      unfold m_law_line_b1
      refine tot_bind (draw_ok hb (by omega) (by omega)) fun u hu => ?_
      obtain ⟨⟨u0, u1⟩, hb⟩ := hu
      refine tot_bind (draw_ok hb (by omega) (by omega)) fun v hv => ?_
      obtain ⟨⟨v0, v1⟩, hb⟩ := hv
      rw [modG_ok (by omega), modG_ok (by omega)]
      refine tot_let (tot_let ?_)
      obtain ⟨t, ht, e⟩ := gx_ok (xs := ([u.1, v.1, x % s.2.2.2, x / 3 % s.2.2.2] : List Int)) (i := x15.1) (by simp; omega)
      rw [e]
      have ht2 : 0 ≤ t ∧ t < s.2.2.2 := by
        have a1 := Int.emod_nonneg x (b := s.2.2.2) (by omega)
        have a2 := Int.emod_lt_of_pos x (b := s.2.2.2) (by omega)
        have a3 := Int.emod_nonneg (x / 3) (b := s.2.2.2) (by omega)
        have a4 := Int.emod_lt_of_pos (x / 3) (b := s.2.2.2) (by omega)
        simp only [List.mem_cons, List.not_mem_nil, or_false] at ht
        rcases ht with rfl | rfl | rfl | rfl <;> omega
      refine tot_let (tot_bind (draw_ok hb (by omega) (by omega)) fun y hy => ?_)
      obtain ⟨_, hb⟩ := hy
      refine tot_bind (P := fun q : Int × (List Int × Int) => (0 ≤ q.2.2 ∧ q.2.2 < s.2.2.1.length) ∧ Bg (N + 12 + 4 * k + 1 + 1 + 1 + 1) fold q.1 q.2.1) (tot_ite (fun c => ?_) fun c => tot_some ⟨by dsimp only; omega, hb.mono (by omega)⟩) fun q hq => ?_
      · refine tot_bind (draw_ok hb (by omega) (by omega)) fun w hw => ?_
        obtain ⟨⟨w0, w1⟩, hb⟩ := hw
        exact tot_some ⟨⟨w0, w1⟩, hb⟩
      · obtain ⟨⟨q0, q1⟩, hb⟩ := hq
        obtain ⟨t, htm, e⟩ := gx_ok (xs := s.2.2.1) (i := q.2.2) (by omega)
        rw [e]
        refine tot_let ?_
        rw [psh_ok (by omega)]
        refine tot_some ⟨hb.mono (by omega), by simp [hk], fun p hp => ?_⟩
        rcases List.mem_append.mp hp with z1 | z1
        · exact hkb p z1
        · rw [List.mem_singleton.mp z1]
          exact m4 t htm
    · obtain ⟨hb, hk, hkb⟩ := hz
      exact tot_some ⟨⟨by dsimp only; omega, hkb⟩, hb.mono (by omega)⟩
theorem wide_ok {N fold turn : Int} {great : List Int} (h : Bg N fold turn great) (hN : N < 100000) : Tot (m_law_wide great fold turn) fun r => (1 ≤ r.1 ∧ r.1 ≤ 300) ∧ Bg (N + 2) fold r.2.1 r.2.2 := by
  unfold m_law_wide
  refine tot_bind (draw_ok h (by omega) (by omega)) fun x1 h1 => ?_
  obtain ⟨⟨r0, r1⟩, hb⟩ := h1
  obtain ⟨t, ht, e⟩ := gx_ok (xs := ([4, 12, 12, 300] : List Int)) (i := x1.1) (by simp; omega)
  rw [e]
  have ht2 : 1 ≤ t ∧ t ≤ 300 := by
    simp only [List.mem_cons, List.not_mem_nil, or_false] at ht
    omega
  refine tot_let (tot_bind (draw_ok hb (by omega) (by omega)) fun x3 h3 => ?_)
  obtain ⟨⟨q0, q1⟩, hb⟩ := h3
  exact tot_some ⟨⟨by dsimp only; omega, by dsimp only; omega⟩, hb.mono (by omega)⟩
theorem most_ok {N fold turn : Int} {great : List Int} (h : Bg N fold turn great) (hN : N < 100000) : Tot (m_law_most great fold turn) fun r => (0 ≤ r.1 ∧ r.1 ≤ 200) ∧ Bg (N + 1) fold r.2.1 r.2.2 := by
  unfold m_law_most
  refine tot_bind (draw_ok h (by omega) (by omega)) fun x1 h1 => ?_
  obtain ⟨⟨r0, r1⟩, hb⟩ := h1
  obtain ⟨t, ht, e⟩ := gx_ok (xs := ([8, 14, 14, 30, 30, 30, 60, 200] : List Int)) (i := x1.1) (by simp; omega)
  rw [e]
  refine tot_let (tot_some ⟨?_, hb⟩)
  simp only [List.mem_cons, List.not_mem_nil, or_false] at ht
  dsimp only
  omega
/-- a trace as drawn -/
def Good (xs : List Int) : Prop := xs.length ≤ 200 ∧ ∀ p ∈ xs, 0 ≤ p ∧ p < 1000000000000
theorem Good.rev {xs : List Int} (h : Good xs) : Good xs.reverse := ⟨by rw [List.length_reverse]; exact h.1, fun p hp => h.2 p (List.mem_reverse.mp hp)⟩
theorem c0_ok {fold : Int} {x1 : (List Int) × (Int × Int)} (e : x1.2.1 = fold) {N : Int} {s : Int × (List Int)} (h : Bg N fold s.1 s.2) (hN : N < 90000) (x : Int) : Tot (m_law_c0 x1 s x) fun r => (∃ y, r.1 = some y ∧ (Good y.1 ∧ 1 ≤ y.2 ∧ y.2 ≤ 300)) ∧ Bg (N + 1003) fold r.2.1 r.2.2 := by
  unfold m_law_c0
  rw [e]
  refine tot_bind (most_ok h (by omega)) fun a ha => ?_
  obtain ⟨ha, hb⟩ := ha
  refine tot_bind (line_ok hb (by omega) (by omega)) fun b hb2 => ?_
  obtain ⟨hl, hb⟩ := hb2
  refine tot_bind (wide_ok hb (by omega)) fun c hc => ?_
  obtain ⟨hc, hb⟩ := hc
  exact tot_some ⟨⟨_, rfl, hl, hc⟩, hb.mono (by omega)⟩
theorem two_ok {α : Type} {xs : List α} (h : xs.length = 2) : ∃ a b, xs = [a, b] := match xs, h with
  | [a, b], _ => ⟨a, b, rfl⟩
theorem enu_pg {xs : List Int} {k : Nat} {x : Int × Int} (h : (enu 0 xs)[k]? = some x) : k < xs.length ∧ x = ((k : Int), pg xs k) := by
  obtain ⟨h1, h2⟩ := enu_get 0 xs k h
  have hk := (List.getElem?_eq_some_iff.mp h2).1
  rw [pg_at hk] at h2
  exact ⟨hk, Prod.ext (by rw [h1]; simp) (Option.some.inj h2).symm⟩
theorem work_ok {xs : List Int} {w : Nat} (hw : 1 ≤ w ∧ w ≤ 300) (hl : xs.length ≤ 200) : m_working (w : Int) xs = some ((List.range xs.length).map fun k => bh w xs (k + 1)) := by
  unfold m_working
  have e1 : m_need_window (w : Int) (w : Int) = some () := by
    unfold m_need_window
    rw [if_neg (by simp; omega)]
  rw [e1, Option.bind_some, rngG_ok (by omega), Option.bind_some, Int.toNat_natCast]
  rw [lcM_map (g := fun x : Int => bh w xs (x.toNat + 1)) (fun x hx => ?_) (by rw [rng_len]; omega)]
  · show some _ = some _
    refine congrArg some ?_
    unfold rng
    rw [List.map_map]
    refine List.map_congr_left fun k _ => ?_
    show bh w xs (((0 : Int) + (k : Int)).toNat + 1) = _
    rw [Int.zero_add, Int.toNat_natCast]
  · have hx := rng_mem hx
    obtain ⟨k, rfl⟩ : ∃ k : Nat, x = (k : Int) := ⟨x.toNat, by omega⟩
    unfold m_working_c0
    rw [bh_cut (by omega) (by omega)]
    simp only [Option.bind_some, Int.toNat_natCast]
/-- what each request is told as -/
def Wl (w : Nat) (xs : List Int) : List (List Int) := (List.range xs.length).map fun k => bh w xs (k + 1)
theorem range_snoc {α : Type} {f : Nat → α} {k : Nat} : (List.range (k + 1)).map f = (List.range k).map f ++ [f k] := by
  rw [List.range_succ, List.map_append]
  rfl
theorem keys_put {m : List (Int × Int)} {k v : Int} (h : (m.map (·.1)).Nodup) : ((dput m k v).map (·.1)).Nodup := by
  unfold dput
  split
  · rw [List.map_map]
    have e : ((fun q : Int × Int => q.1) ∘ fun q => if q.1 = k then (q.1, v) else q) = fun q => q.1 := by
      funext q
      show (if q.1 = k then (q.1, v) else q).1 = q.1
      split <;> rfl
    rw [e]
    exact h
  · rename_i c
    rw [List.map_append]
    refine List.nodup_append.mpr ⟨h, List.nodup_cons.mpr ⟨List.not_mem_nil, List.nodup_nil⟩, fun a ha b hb e => ?_⟩
    have hb : b = k := by simpa using hb
    subst hb
    subst e
    obtain ⟨q, hq, e2⟩ := List.mem_map.mp ha
    exact c (List.any_eq_true.mpr ⟨q, hq, decide_eq_true e2⟩)
theorem sort_inc {l : List Int} (h : l.Nodup) {m : List Int} (hm : ∀ x, x ∈ l ↔ x ∈ m) : sortI l = sset m := by
  have p := sortI_perm l
  refine inc_ext ?_ (sset_inc m) fun x => by rw [p.mem_iff, hm, sset_mem]
  have n := p.nodup_iff.mpr h
  exact List.Pairwise.imp₂ (fun a b h1 h2 => by omega) (sortI_srt l) n
theorem due_ok {xs : List Int} {w : Nat} (hw : 1 ≤ w ∧ w ≤ 300) (hl : xs.length ≤ 200) : m_law_due (w : Int) xs = some (Wl w xs) := by
  unfold m_law_due
  obtain ⟨s, e, _, _, _, h1⟩ := forM_ix (f := m_law_due_b1 (w : Int)) (fun k s => DL s.1 (xs.take k).reverse ∧ s.1.length ≤ k ∧ (s.1.map (·.1)).Nodup ∧ s.2 = (List.range k).map fun k => bh w xs (k + 1)) (xs := enu 0 xs) (n := 0) (s := (([] : List (Int × Int)), ([] : List (List Int)))) ⟨fun _ => rfl, Nat.le_refl _, List.nodup_nil, rfl⟩ (fun k x s hx hI => by
    rw [Nat.zero_add] at hI ⊢
    obtain ⟨hk, rfl⟩ := enu_pg hx
    obtain ⟨i1, i2, i3, i4⟩ := hI
    have rl : (xs.take k).reverse.length = k := by
      rw [List.length_reverse, List.length_take]
      omega
    have rl1 : (xs.take (k + 1)).reverse.length = k + 1 := by
      rw [List.length_reverse, List.length_take]
      omega
    unfold m_law_due_b1
    dsimp only
    have eP : J.dputG s.1 (pg xs k) (k : Int) = some (dput s.1 (pg xs k) (k : Int)) := if_pos (by omega)
    have i5 : DL (dput s.1 (pg xs k) (k : Int)) (xs.take (k + 1)).reverse := by
      rw [take_rev hk]
      have := dl_put (x := pg xs k) i1
      rwa [rl] at this
    have i6 := keys_put (k := pg xs k) (v := (k : Int)) i3
    have i7 : (dput s.1 (pg xs k) (k : Int)).length ≤ k + 1 := Nat.le_trans dput_len (by omega)
    have key : ∀ x, (∃ i, lr (xs.take (k + 1)).reverse x = some i ∧ ((k + 1 : Nat) : Int) - w ≤ i) ↔ x ∈ wn w xs (k + 1) := fun x => by
      have := lr_take (p := x) (r := (xs.take (k + 1)).reverse) (w := w)
      rwa [rl1] at this
    have eL : J.lcM (m_law_due_c0 (w : Int) ((k : Int), pg xs k) (dput s.1 (pg xs k) (k : Int))) ((dput s.1 (pg xs k) (k : Int)).map (·.1)) () = some (((dput s.1 (pg xs k) (k : Int)).map (·.1)).filter (fun x => decide (x ∈ wn w xs (k + 1))), ()) := by
      refine lcM_filter (p := fun x => decide (x ∈ wn w xs (k + 1))) (fun x hx => ?_) (by rw [List.length_map]; omega)
      obtain ⟨i, hi⟩ := Option.isSome_iff_exists.mp (keys_iff.mp hx)
      unfold m_law_due_c0
      dsimp only
      rw [hi, Option.bind_some]
      rw [i5 x] at hi
      have e : decide (((k : Int) - (w : Int)) < i) = decide (x ∈ wn w xs (k + 1)) := by
        refine decide_eq_decide.mpr (Iff.trans ?_ (key x))
        rw [hi]
        exact ⟨fun z => ⟨i, rfl, by omega⟩, fun ⟨j, z1, z2⟩ => by cases z1; omega⟩
      rw [e]
      split <;> rfl
    have eS : sortI (((dput s.1 (pg xs k) (k : Int)).map (·.1)).filter (fun x => decide (x ∈ wn w xs (k + 1)))) = bh w xs (k + 1) := by
      refine sort_inc (i6.filter _) fun x => ?_
      rw [List.mem_filter, decide_eq_true_eq]
      refine ⟨fun z => z.2, fun z => ⟨keys_iff.mpr ?_, z⟩⟩
      obtain ⟨i, hi, _⟩ := (key x).mpr z
      rw [i5 x, hi]
      rfl
    rw [eP, Option.bind_some, eL, Option.bind_some, eS, i4, psh_ok (by rw [List.length_map, List.length_range]; omega), Option.bind_some]
    exact ⟨_, rfl, i5, i7, i6, range_snoc.symm⟩)
  rw [e, Option.bind_some, h1, enu_len, Nat.zero_add]
  rfl
theorem repr_ok {xs : List Int} {w : Nat} (h : Good xs) : ∃ t, reprG (PySem.W.Datum.toD (Wl w xs)) = some t := by
  refine ⟨_, reprG_ok (n := 100000) (dp := 2) (okd_list' (n := 300) (dp := 1) (fun d hd => ?_) (by rw [List.length_map]; unfold Wl; rw [List.length_map, List.length_range]; have := h.1; omega) (by omega)) rfl (by omega) (by omega)⟩
  obtain ⟨t, ht, rfl⟩ := List.mem_map.mp hd
  unfold Wl at ht
  obtain ⟨k, hk, rfl⟩ := List.mem_map.mp ht
  have len : (bh w xs (k + 1)).length ≤ 200 := by
    have h1 : (bh w xs (k + 1)).length ≤ (wn w xs (k + 1)).length := sset_len _
    unfold wn at h1
    rw [List.length_take, List.length_reverse, List.length_take] at h1
    have := h.1
    omega
  refine okd_list' (n := 0) (dp := 0) (fun y hy => ?_) (by rw [List.length_map]; omega) (by omega)
  obtain ⟨x, hx, rfl⟩ := List.mem_map.mp hy
  have hx := bh_mem.mp hx
  have hx2 : x ∈ xs := List.mem_of_mem_take (List.mem_reverse.mp (List.mem_of_mem_take hx))
  have := h.2 x hx2
  exact okd_int (by omega) (by omega)
theorem part_ok {xs : List Int} {w : Int} (h : Good xs) (hw : 1 ≤ w ∧ w ≤ 300) : ∃ W t, m_law_due w xs = some W ∧ m_working w xs = some W ∧ reprG (PySem.W.Datum.toD W) = some t ∧ W.length ≤ 200 ∧ ∀ l ∈ W, l.length ≤ 200 := by
  obtain ⟨n, rfl⟩ : ∃ n : Nat, w = (n : Int) := ⟨w.toNat, by omega⟩
  obtain ⟨t, ht⟩ := repr_ok (w := n) h
  refine ⟨Wl n xs, t, due_ok (by omega) h.1, work_ok (by omega) h.1, ht, by unfold Wl; rw [List.length_map, List.length_range]; exact h.1, fun l hl => ?_⟩
  unfold Wl at hl
  obtain ⟨k, hk, rfl⟩ := List.mem_map.mp hl
  have h1 : (bh n xs (k + 1)).length ≤ (wn n xs (k + 1)).length := sset_len _
  unfold wn at h1
  rw [List.length_take, List.length_reverse, List.length_take] at h1
  have := h.1
  omega
theorem forL_ix {ι α ρ : Type} {f : ι → α → Option (Lp ι ρ)} (I : Nat → ι → Prop) : ∀ {xs : List α} {n : Nat} {s : ι}, I n s → (∀ k x s, xs[k]? = some x → I (n + k) s → ∃ s', f s x = some (.nx s') ∧ I (n + k + 1) s') → ∃ s', forL f xs s = some (.inl s') ∧ I (n + xs.length) s'
  | [], n, s, h, _ => ⟨s, rfl, h⟩
  | x :: xs, n, s, h, hf => by
    obtain ⟨s1, e1, h1⟩ := hf 0 x s rfl h
    obtain ⟨s2, e2, h2⟩ := forL_ix (f := f) I (xs := xs) (n := n + 1) h1 fun k y s hy hi => by
      have := hf (k + 1) y s hy (by rw [show n + (k + 1) = n + 1 + k by omega]; exact hi)
      rwa [show n + (k + 1) + 1 = n + 1 + k + 1 by omega] at this
    refine ⟨s2, ?_, by rw [List.length_cons, show n + (xs.length + 1) = n + 1 + xs.length by omega]; exact h2⟩
    show (f s x).bind _ = _
    rw [e1]
    exact e2
theorem rng_ix {n k : Nat} {x : Int} (h : (rng 0 n)[k]? = some x) : k < n ∧ x = (k : Int) := by
  have hl := (List.getElem?_eq_some_iff.mp h).1
  rw [rng_len] at hl
  unfold rng at h
  rw [List.getElem?_map, List.getElem?_range hl] at h
  exact ⟨hl, by rw [← Option.some.inj h]; exact Int.zero_add _⟩
/-- the told lists bent, one behind the other -/
theorem bend_ok {f : List (List Int) → Int → Option (Lp (List (List Int)) Bool)} {W : List (List Int)} (hn : W.length ≤ 200) (hl : ∀ l ∈ W, l.length ≤ 200)
    (hf : ∀ s x, f s x = (J.gx s x).bind fun x28 => (J.psh x28 5).bind fun x30 => (J.stx s x x30).bind fun x31 => (J.orM (decide ((J.slc x31 (some (x + 1)) none) ≠ (J.slc W (some (x + 1)) none))) ((J.lcM (m_law_c1) (J.slc W none (some x)) ()).bind fun x36 => some (decide ((J.slc x31 none (some x)) ≠ x36.1)))).bind fun x37 => if x37 = true then (some (.rt false)) else (some (.nx x31))) :
    ∃ s, J.forL f (rng 0 W.length) W = some (.inl s) ∧ s.length ≤ 200 := by
  obtain ⟨s, e, h1, _⟩ := forL_ix (f := f) (fun k s => s.length = W.length ∧ s = (W.take k).map (· ++ [5]) ++ W.drop k) (xs := rng 0 W.length) (n := 0) (s := W) ⟨rfl, rfl⟩ (fun k x s hx hI => by
    rw [Nat.zero_add] at hI ⊢
    obtain ⟨hk, rfl⟩ := rng_ix hx
    obtain ⟨i0, i1⟩ := hI
    have tl : ((W.take k).map (· ++ [(5 : Int)])).length = k := by
      rw [List.length_map, List.length_take]
      omega
    have wk : W[k]? = some W[k] := List.getElem?_eq_getElem hk
    have sk : s[k]? = some W[k] := by
      rw [i1, List.getElem?_append_right (by omega), tl, Nat.sub_self, List.getElem?_drop, Nat.add_zero]
      exact wk
    have wl := hl _ (List.getElem_mem hk)
    have dk : W.drop k = W[k] :: W.drop (k + 1) := List.drop_eq_getElem_cons hk
    have st : s.set k (W[k] ++ [5]) = (W.take (k + 1)).map (· ++ [5]) ++ W.drop (k + 1) := by
      rw [i1, dk, List.set_append_right _ _ (by omega), tl, Nat.sub_self, List.set_cons_zero, List.take_succ, wk, List.map_append, List.append_assoc]
      rfl
    have tl1 : ((W.take (k + 1)).map (· ++ [(5 : Int)])).length = k + 1 := by
      rw [List.length_map, List.length_take]
      omega
    have d1 : (s.set k (W[k] ++ [5])).drop (k + 1) = W.drop (k + 1) := by
      rw [st, List.drop_append_of_le_length (by omega), List.drop_of_length_le (by omega), List.nil_append]
    have t1 : (s.set k (W[k] ++ [5])).take k = (W.take k).map (· ++ [5]) := by
      rw [List.take_set_of_le (Nat.le_refl _), i1, List.take_append_of_le_length (by omega), List.take_of_length_le (by omega)]
    have eC : J.lcM m_law_c1 (W.take k) () = some ((W.take k).map (· ++ [5]), ()) := by
      refine lcM_map (g := fun l : List Int => l ++ [5]) (fun l hm => ?_) (by rw [List.length_take]; omega)
      have := hl l (List.mem_of_mem_take hm)
      unfold m_law_c1
      rw [catG_ok (by simp; omega)]
      rfl
    have eX : J.stx s (k : Int) (W[k] ++ [5]) = some (s.set k (W[k] ++ [5])) := by
      unfold J.stx J.ixp
      rw [if_pos (by omega), if_pos (by omega), Int.toNat_natCast]
      rfl
    refine ⟨s.set k (W[k] ++ [5]), ?_, by rw [List.length_set]; exact i0, st⟩
    rw [hf, gx_nat (by omega), Int.toNat_natCast, sk, Option.bind_some, psh_ok (by omega), Option.bind_some, eX, Option.bind_some, slc_drop (by omega), slc_drop (by omega), slc_take (by omega), slc_take (by omega)]
    have ek : ((k : Int) + 1).toNat = k + 1 := by omega
    rw [ek, Int.toNat_natCast, d1, t1, eC]
    unfold J.orM
    simp)
  exact ⟨s, e, by omega⟩
theorem law_true (ns : List Int) (hl : ns.length ≤ 63) : m_law ns = some true := by
  have key : Tot (m_law ns) fun r => r = true := by
    unfold m_law
    refine tot_bind (bag_ok hl) fun x1 hb => ?_
    rw [rngG_ok (by omega), Option.bind_some]
    refine tot_bind (tot_lcB (I := fun j (s : Int × List Int) => Bg (1003 * j) x1.2.1 s.1 s.2) (R := fun _ (y : List Int × Int) => Good y.1 ∧ 1 ≤ y.2 ∧ y.2 ≤ 300) (hb.mono (by omega)) (by rw [rng_len]; omega) fun j s x _ hj hI => ?_) fun r hr => ?_
    · rw [rng_len] at hj
      have := c0_ok (x1 := x1) rfl hI (by omega) x
      obtain ⟨z, e, h1, h2⟩ := this
      exact ⟨z, e, h1, h2.mono (by omega)⟩
    obtain ⟨l2, all, _⟩ := hr
    rw [rng_len] at l2
    obtain ⟨a, b, e⟩ := two_ok l2
    have ha := all a (by rw [e]; exact List.mem_cons_self)
    have hb := all b (by rw [e]; exact List.mem_cons_of_mem _ List.mem_cons_self)
    obtain ⟨_, _, ga, wa⟩ := ha
    obtain ⟨_, _, gb, wb⟩ := hb
    rw [e]
    refine tot_let (x := (a, b)) ?_
    refine tot_bind (tot_forL (I := fun _ s => Good s.1 ∧ Good s.2) (K := 3) (k := 0) ⟨ga, gb⟩ rfl fun k s x _ _ hI => ?_) fun o ho => ?_
    · obtain ⟨g0, g1⟩ := hI
      have one : ∀ {xs : List Int} {w : Int} {P : List Int → (List Int) × (List Int)} {fb : List (List Int) → List (List Int) → Int → Option (Lp (List (List Int)) Bool)} (_ : ∀ W s x, fb W s x = (J.gx s x).bind fun x28 => (J.psh x28 5).bind fun x30 => (J.stx s x x30).bind fun x31 => (J.orM (decide ((J.slc x31 (some (x + 1)) none) ≠ (J.slc W (some (x + 1)) none))) ((J.lcM (m_law_c1) (J.slc W none (some x)) ()).bind fun x36 => some (decide ((J.slc x31 none (some x)) ≠ x36.1)))).bind fun x37 => if x37 = true then (some (.rt false)) else (some (.nx x31))) (_ : Good xs) (_ : 1 ≤ w ∧ w ≤ 300) (_ : Good (P xs.reverse).1 ∧ Good (P xs.reverse).2), Tot ((m_law_due w xs).bind fun x19 => (m_working w xs).bind fun x20 => (J.reprG (PySem.W.Datum.toD (x20 : List (List Int)))).bind fun x22 => (J.reprG (PySem.W.Datum.toD (x19 : List (List Int)))).bind fun x23 => if ((decide (x22 ≠ x23)) || (decide (xs ≠ xs))) = true then (some (J.Lp.rt (ι := (List Int) × (List Int)) false)) else ((J.rngG ((x20).length : Int)).bind fun x24 => (J.forL (fb x19) x24 x20).bind fun o39 => Sum.elim (fun s38 => (J.psh s38 ([] : List Int)).bind fun x40 => (m_working w xs).bind fun x41 => (J.reprG (PySem.W.Datum.toD (x41 : List (List Int)))).bind fun x42 => (J.reprG (PySem.W.Datum.toD (x19 : List (List Int)))).bind fun x43 => if (decide (x42 ≠ x43)) = true then (some (.rt false)) else ((m_working w xs.reverse).bind fun x44 => (J.reprG (PySem.W.Datum.toD (x44 : List (List Int)))).bind fun x45 => (m_law_due w xs.reverse).bind fun x46 => (J.reprG (PySem.W.Datum.toD (x46 : List (List Int)))).bind fun x47 => if (decide (x45 ≠ x47)) = true then (some (.rt false)) else (some (.nx (P xs.reverse))))) (fun r => some (.rt r)) o39)) fun o => ∃ s', o = .nx s' ∧ Good s'.1 ∧ Good s'.2 := fun {xs w P fb} hfb g hw hP => by
        obtain ⟨W, t, e1, e2, e3, e4, e5⟩ := part_ok g hw
        obtain ⟨W2, t2, f1, f2, f3, _⟩ := part_ok g.rev hw
        obtain ⟨z, hz, hzl⟩ := bend_ok (f := fb W) e4 e5 (hfb W)
        rw [e1, Option.bind_some, e2, Option.bind_some, e3, Option.bind_some, Option.bind_some, if_neg (by simp), rngG_ok (by omega), Option.bind_some, Int.toNat_natCast, hz, Option.bind_some, Sum.elim_inl, psh_ok (by omega), Option.bind_some, Option.bind_some, e3, Option.bind_some, Option.bind_some, if_neg (by simp), f2, Option.bind_some, f3, Option.bind_some, f1, Option.bind_some, f3, Option.bind_some, if_neg (by simp)]
        exact tot_some ⟨_, rfl, hP⟩
      unfold m_law_b5
      cases x with
      | false =>
        rw [if_neg (by decide)]
        exact one (P := fun z => (z, s.2)) (fb := m_law_b2) (fun _ _ _ => rfl) g0 wa ⟨g0.rev, g1⟩
      | true =>
        rw [if_pos rfl]
        exact one (P := fun z => (s.1, z)) (fb := m_law_b4) (fun _ _ _ => rfl) g1 wb ⟨g0, g1.rev⟩
    · obtain ⟨s, rfl, _⟩ := ho
      exact tot_some rfl
  obtain ⟨r, e, rfl⟩ := key
  exact e
end Gk22
namespace Gk22
open PySem PySem.Spec PyProof.Rows L2
/-! ### the head: facts by names, the run -/
def h__law_bag : He.DefD := ⟨("_law_bag", none), "_law_bag", "_law_bag", defArgs s__law_bag, defBody s__law_bag, defScope s__law_bag, [], []⟩
def h__law_draw : He.DefD := ⟨("_law_draw", none), "_law_draw", "_law_draw", defArgs s__law_draw, defBody s__law_draw, defScope s__law_draw, [], []⟩
def h__law_most : He.DefD := ⟨("_law_most", none), "_law_most", "_law_most", defArgs s__law_most, defBody s__law_most, defScope s__law_most, [], []⟩
def h__law_pages : He.DefD := ⟨("_law_pages", none), "_law_pages", "_law_pages", defArgs s__law_pages, defBody s__law_pages, defScope s__law_pages, [], []⟩
def h__law_line : He.DefD := ⟨("_law_line", none), "_law_line", "_law_line", defArgs s__law_line, defBody s__law_line, defScope s__law_line, [], []⟩
def h__law_wide : He.DefD := ⟨("_law_wide", none), "_law_wide", "_law_wide", defArgs s__law_wide, defBody s__law_wide, defScope s__law_wide, [], []⟩
def h__law_due : He.DefD := ⟨("_law_due", none), "_law_due", "_law_due", defArgs s__law_due, defBody s__law_due, defScope s__law_due, [], []⟩
def h_need_window : He.DefD := ⟨("need_window", none), "need_window", "need_window", defArgs s_need_window, defBody s_need_window, defScope s_need_window, [], []⟩
def h_working : He.DefD := ⟨("working", none), "working", "working", defArgs s_working, defBody s_working, defScope s_working, [], []⟩
def h_law : He.DefD := ⟨("law", none), "law", "law", defArgs s_law, defBody s_law, defScope s_law, [], []⟩
def fn : List He.DefD := [h__law_bag, h__law_draw, h__law_most, h__law_pages, h__law_line, h__law_wide, h__law_due, h_need_window, h_working, h_law]
def fa : List He.Fa := [.glo "_law_bag", .glo "_law_draw", .glo "_law_most", .glo "_law_pages", .glo "_law_line", .glo "_law_wide", .glo "_law_due", .glo "need_window", .glo "working", .glo "law", .free "enumerate", .free "len", .free "list", .free "max", .free "range", .free "repr", .free "set", .free "sorted"]
abbrev R : PySem.W.OpenRow := PySem.W.OpenLaw.row PySem.Challenge.rw_pagerooms_k22_working_pages
abbrev hk : PySem.W.Hook := He.hookD 4 fa fn
def ob (s : PySem.W.SharedT) : He.AlD := He.obsDG 4 fa fn (HandSHeadRun.getT s)
theorem ob_eq (s : PySem.W.SharedT) : ob s = hk.obs s.abs := He.obsDG_eq (HandSHeadRun.getT_eq s)
theorem run (w : World) : HandSHeadRun.RunEq R (PySem.W.view R.prog [14]) hk ob 6000 ["PageError", "NoWindow", "need_window", "working", "_law_bag", "_law_draw", "_law_pages", "_law_line", "_law_wide", "_law_most", "_law_due"] w := by
  intro os
  kernel_rfl
theorem facts {P : Program} {w : World} {K : PySem.W.Frag} {h : Heap} {mg : Str → Option Value} {f : Addr} (X : K.In h) (G : h.Ns mainGlobals mg) (hfa : mg ("law" : Str) = some (.ref f)) (c : He.SaysD fa fn K) :
    ∃ fd : FuncData, (∀ (s : Shared) (v : Value), BindsTo s fd ⟨[v], []⟩ [("script", v)]) ∧ ∀ base : Heap, K.In base → base.Ns mainGlobals mg → J.FnG P w K mg base CX0 4 f fd ["script"] (F_law K).sp := by
  obtain ⟨fd0, FD0⟩ := c.def_ 0 (d := h__law_bag) rfl
  obtain ⟨fd1, FD1⟩ := c.def_ 1 (d := h__law_draw) rfl
  obtain ⟨fd2, FD2⟩ := c.def_ 2 (d := h__law_most) rfl
  obtain ⟨fd3, FD3⟩ := c.def_ 3 (d := h__law_pages) rfl
  obtain ⟨fd4, FD4⟩ := c.def_ 4 (d := h__law_line) rfl
  obtain ⟨fd5, FD5⟩ := c.def_ 5 (d := h__law_wide) rfl
  obtain ⟨fd6, FD6⟩ := c.def_ 6 (d := h__law_due) rfl
  obtain ⟨fd7, FD7⟩ := c.def_ 7 (d := h_need_window) rfl
  obtain ⟨fd8, FD8⟩ := c.def_ 8 (d := h_working) rfl
  obtain ⟨fd9, FD9⟩ := c.def_ 9 (d := h_law) rfl
  have e := hfa.symm.trans (He.glo_ok X G (c.fact 9 (f := .glo "law") rfl))
  cases e
  have b := FunD.bindsA (ps := ["script"]) FD9 fun _ _ _ _ _ _ us hl => match us, hl with | [_], _ => rfl
  exact ⟨fd9, fun s v => b s [v] rfl, fun base _ _ => ok_law (P := P) (w := w) (base := base) (⟨_, fd0, FD0, He.glo_ok X G (c.fact 0 (f := .glo "_law_bag") rfl), FD0.bindsN (ps := ["script"]) (fun _ _ _ _ _ _ us hl => match us, hl with | [_], _ => rfl),
      _, fd1, FD1, He.glo_ok X G (c.fact 1 (f := .glo "_law_draw") rfl), FD1.bindsN (ps := ["bag", "many"]) (fun _ _ _ _ _ _ us hl => match us, hl with | [_, _], _ => rfl),
      _, fd2, FD2, He.glo_ok X G (c.fact 2 (f := .glo "_law_most") rfl), FD2.bindsN (ps := ["bag"]) (fun _ _ _ _ _ _ us hl => match us, hl with | [_], _ => rfl),
      _, fd3, FD3, He.glo_ok X G (c.fact 3 (f := .glo "_law_pages") rfl), FD3.bindsN (ps := ["bag"]) (fun _ _ _ _ _ _ us hl => match us, hl with | [_], _ => rfl),
      _, fd4, FD4, He.glo_ok X G (c.fact 4 (f := .glo "_law_line") rfl), FD4.bindsN (ps := ["bag", "most"]) (fun _ _ _ _ _ _ us hl => match us, hl with | [_, _], _ => rfl),
      _, fd5, FD5, He.glo_ok X G (c.fact 5 (f := .glo "_law_wide") rfl), FD5.bindsN (ps := ["bag"]) (fun _ _ _ _ _ _ us hl => match us, hl with | [_], _ => rfl),
      _, fd6, FD6, He.glo_ok X G (c.fact 6 (f := .glo "_law_due") rfl), FD6.bindsN (ps := ["line", "wide"]) (fun _ _ _ _ _ _ us hl => match us, hl with | [_, _], _ => rfl),
      _, fd7, FD7, He.glo_ok X G (c.fact 7 (f := .glo "need_window") rfl), FD7.bindsN (ps := ["window", "what"]) (fun _ _ _ _ _ _ us hl => match us, hl with | [_, _], _ => rfl),
      _, fd8, FD8, He.glo_ok X G (c.fact 8 (f := .glo "working") rfl), FD8.bindsN (ps := ["trace", "window"]) (fun _ _ _ _ _ _ us hl => match us, hl with | [_, _], _ => rfl),
      _, fd9, FD9, He.glo_ok X G (c.fact 9 (f := .glo "law") rfl), FD9.bindsN (ps := ["script"]) (fun _ _ _ _ _ _ us hl => match us, hl with | [_], _ => rfl),
      He.free_ok X G (c.fact 10 (f := .free "enumerate") rfl),
      He.free_ok X G (c.fact 11 (f := .free "len") rfl),
      He.free_ok X G (c.fact 12 (f := .free "list") rfl),
      He.free_ok X G (c.fact 13 (f := .free "max") rfl),
      He.free_ok X G (c.fact 14 (f := .free "range") rfl),
      He.free_ok X G (c.fact 15 (f := .free "repr") rfl),
      He.free_ok X G (c.fact 16 (f := .free "set") rfl),
      He.free_ok X G (c.fact 17 (f := .free "sorted") rfl)⟩ : Wd K mg)⟩
end Gk22
open PySem PySem.W PySem.Calls PyProof.Rows
theorem PySem.Challenge.cw_pagerooms_k22_working_pages_holds : PySem.Challenge.rw_pagerooms_k22_working_pages.Holds := by
  w_on; o_law
  refine HandSHeadRun.head_any (r := OpenLaw.row PySem.Challenge.rw_pagerooms_k22_working_pages) (q := view (OpenLaw.row PySem.Challenge.rw_pagerooms_k22_working_pages).prog [14]) (H := Gk22.hk) (ob := Gk22.ob) (M := 6000) (loose := ["PageError", "NoWindow", "need_window", "working", "_law_bag", "_law_draw", "_law_pages", "_law_line", "_law_wide", "_law_most", "_law_due"]) (d := HandSHeadRun.topDef (OpenLaw.row PySem.Challenge.rw_pagerooms_k22_working_pages).prog 14) (kwd := []) Gk22.ob_eq
    (by kernel_rfl) (fun s => by kernel_rfl) Gk22.run (by kernel_rfl) (by kernel_rfl) (by kernel_rfl) (by rfl) (by first | assumption | decide +kernel) (by decide +kernel) ⟨rfl, rfl, rfl, rfl, rfl, by decide +kernel⟩ ?hw ?hc
  case hw => w_witness2
  case hc =>
    refine J.walk_ofG (l := PySem.Challenge.rw_pagerooms_k22_working_pages) (n := 63) (k := 4) (x := "script") (CX := L2.CX0) rfl (by decide) (by kernel_rfl) ⟨rfl, by decide, by decide⟩ ?F (fun _ _ _ _ z => z)
    intro w mg fa h Y G hmg0
    obtain ⟨K, KX, c⟩ := Y
    have hmg : mg ("law" : PySem.Str) = some (.ref fa) := by
      have e : (HandSHeadRun.topDef (OpenLaw.row PySem.Challenge.rw_pagerooms_k22_working_pages).prog 14).name = ("law" : PySem.Str) := by kernel_rfl
      rw [← e]
      exact hmg0
    obtain ⟨fd, hb, hF⟩ := Gk22.facts (P := (PySem.Challenge.rw_pagerooms_k22_working_pages).prog) (w := w) KX G hmg c
    exact ⟨K, fd, (Gk22.F_law K).sp, KX, hb, fun H a ns hl _ hS => ⟨⟨a, ns, true⟩, ⟨H, H⟩, Gk22.law_true ns hl, hS, J.sta0, fun v H' h => J.out_true h⟩, hF⟩
